import PyProof.Rows.All
import Wide.All
import OpenK.AllK
import Wide.FinOn
import HandS.ForMost
import HandS.Flow
import HandS.IsInst
import HandS.Wide
import HandS.TupAny
import HandS.Deep
import HandS.Conv
import HandS.More
import HandS.Text
import KE.SortData
import HandS.DictComp
import HandS.Defaults
import HandS.Iter
import KE.GoesMore
import HandS.Style
import PySem.Challenge.RW_giftskept_k02_shortest_falling_ring
set_option Elab.async false
set_option linter.all false
set_option maxRecDepth 100000
set_option maxHeartbeats 4000000
namespace GK
open PySem PySem.Spec PyProof.Rows L2

/-! ### data, read through the heap -/
inductive D where
  | non | bl (b : Bool) | int (i : Int) | str (s : Str) | raw (v : V)
  | tup (xs : List D) | lst (xs : List D) | dK (kvs : List (Key × D)) | dT (kvs : List (List Key × D)) | obj (C : Addr) (fs : List (Str × D))

abbrev Env := List (Option (Nat × D))
/-- a lock is not seen -/
def erO : HO → HO
  | .frz _ u => u
  | u => u
/-- what may be read: all but the bag -/
def rdH (B : List Addr) (H : Hp) : Hp := fun a => if a ∈ B then none else (H a).map erO
def isDct : HO → Prop
  | .dK _ => True
  | .dT _ => True
  | _ => False

/-- nothing -/
def noH : Hp := fun _ => none

mutual
inductive R (K : PySem.W.Frag) (F : Hp) : V → D → Prop where
  | non : R K F .non .non
  | bl (b : Bool) : R K F (.bl b) (.bl b)
  | int (i : Int) : R K F (.int i) (.int i)
  | str (s : Str) : R K F (.str s) (.str s)
  | raw (v : V) : R K F v (.raw v)
  | tup {a : Addr} {vs : List V} {ds : List D} (h : F a = some (.tup vs)) (r : RL K F vs ds) : R K F (.ref a) (.tup ds)
  | lst {a : Addr} {vs : List V} {ds : List D} (h : F a = some (.lst vs)) (r : RL K F vs ds) : R K F (.ref a) (.lst ds)
  | dK {a : Addr} {kvs : List (Key × V)} {es : List (Key × D)} (h : F a = some (.dK kvs)) (hk : kvs.map (·.1) = es.map (·.1)) (r : RL K F (kvs.map (·.2)) (es.map (·.2))) : R K F (.ref a) (.dK es)
  | dT {a : Addr} {kvs : List (List Key × V)} {es : List (List Key × D)} (h : F a = some (.dT kvs)) (hk : kvs.map (·.1) = es.map (·.1)) (r : RL K F (kvs.map (·.2)) (es.map (·.2))) : R K F (.ref a) (.dT es)
  | obj {a C dx : Addr} {fs : List (Str × V)} {es : List (Str × D)} (h : F a = some (.ins C dx fs)) (hk : fs.map (·.1) = es.map (·.1)) (r : RL K F (fs.map (·.2)) (es.map (·.2))) : R K F (.ref a) (.obj C es)
inductive RL (K : PySem.W.Frag) (F : Hp) : List V → List D → Prop where
  | nil : RL K F [] []
  | cons {v : V} {d : D} {vs : List V} {ds : List D} (h : R K F v d) (t : RL K F vs ds) : RL K F (v :: vs) (d :: ds)
end

section
variable {K : PySem.W.Frag} {F F' H H' : Hp} {B : List Addr}
mutual
theorem R.mono {v : V} {d : D} (s : Same F F') : R K F v d → R K F' v d
  | .non => .non
  | .bl b => .bl b
  | .int i => .int i
  | .str x => .str x
  | .raw v => .raw v
  | .tup h r => .tup (s _ _ h) (r.mono s)
  | .lst h r => .lst (s _ _ h) (r.mono s)
  | .dK h hk r => .dK (s _ _ h) hk (r.mono s)
  | .dT h hk r => .dT (s _ _ h) hk (r.mono s)
  | .obj h hk r => .obj (s _ _ h) hk (r.mono s)
theorem RL.mono {vs : List V} {ds : List D} (s : Same F F') : RL K F vs ds → RL K F' vs ds
  | .nil => .nil
  | .cons h t => .cons (h.mono s) (t.mono s)
end
theorem RL.length {vs : List V} {ds : List D} : RL K F vs ds → vs.length = ds.length
  | .nil => rfl
  | .cons _ t => by rw [List.length_cons, List.length_cons, t.length]
theorem RL.append {vs ws : List V} {ds es : List D} : RL K F vs ds → RL K F ws es → RL K F (vs ++ ws) (ds ++ es)
  | .nil, s => s
  | .cons h t, s => .cons h (t.append s)
theorem RL.get {vs : List V} {ds : List D} : RL K F vs ds → ∀ {i : Nat} {d : D}, ds[i]? = some d → ∃ v, vs[i]? = some v ∧ R K F v d
  | .nil, _, _, e => by simp at e
  | .cons h t, 0, d, e => by
    have e' : _ = d := Option.some.inj e
    subst e'
    exact ⟨_, rfl, h⟩
  | .cons h t, i + 1, d, e => t.get (i := i) (d := d) e
theorem RL.getV {vs : List V} {ds : List D} : RL K F vs ds → ∀ {i : Nat} {v : V}, vs[i]? = some v → ∃ d, ds[i]? = some d ∧ R K F v d
  | .nil, _, _, e => by simp at e
  | .cons h t, 0, v, e => by
    have e' : _ = v := Option.some.inj e
    subst e'
    exact ⟨_, rfl, h⟩
  | .cons h t, i + 1, v, e => t.getV (i := i) (v := v) e
theorem RL.drop {vs : List V} {ds : List D} : RL K F vs ds → ∀ n : Nat, RL K F (vs.drop n) (ds.drop n)
  | h, 0 => h
  | .nil, n + 1 => .nil
  | .cons _ t, n + 1 => t.drop n
theorem RL.take {vs : List V} {ds : List D} : RL K F vs ds → ∀ n : Nat, RL K F (vs.take n) (ds.take n)
  | _, 0 => .nil
  | .nil, n + 1 => .nil
  | .cons h t, n + 1 => .cons h (t.take n)
theorem RL.set {vs : List V} {ds : List D} {v : V} {d : D} (q : R K F v d) : RL K F vs ds → ∀ n : Nat, RL K F (vs.set n v) (ds.set n d)
  | .nil, n => .nil
  | .cons h t, 0 => .cons q t
  | .cons h t, n + 1 => .cons h (t.set q n)
theorem RL.reverse {vs : List V} {ds : List D} : RL K F vs ds → RL K F vs.reverse ds.reverse
  | .nil => .nil
  | .cons h t => by
    rw [List.reverse_cons, List.reverse_cons]
    exact t.reverse.append (.cons h .nil)
theorem RL.eraseIdx {vs : List V} {ds : List D} : RL K F vs ds → ∀ n : Nat, RL K F (vs.eraseIdx n) (ds.eraseIdx n)
  | .nil, n => .nil
  | .cons h t, 0 => t
  | .cons h t, n + 1 => .cons h (t.eraseIdx n)
/-- what is read does not name the bag -/
theorem rdH_some {a : Addr} {u : HO} (e : rdH B H a = some u) : a ∉ B ∧ ∃ x, H a = some x ∧ erO x = u := by
  unfold rdH at e
  split at e
  · cases e
  · rename_i hb
    refine ⟨hb, ?_⟩
    cases q : H a with
    | none => rw [q] at e; cases e
    | some x =>
      rw [q] at e
      exact ⟨x, rfl, Option.some.inj e⟩
theorem rdH_of {a : Addr} {x u : HO} (hb : a ∉ B) (e : H a = some x) (n : erO x = u) : rdH B H a = some u := by
  unfold rdH
  rw [if_neg hb, e]
  exact congrArg some n
theorem rd_of_er {a : Addr} {x u : HO} (e : H a = some x) (n : erO x = u) : Rd H a u := by
  cases x <;> first | (left; rw [e]; exact congrArg some n) | skip
  rename_i o w
  right
  have n' : w = u := n
  exact ⟨o, by rw [e, n']⟩
theorem rd_of_rdH {a : Addr} {u : HO} (e : rdH B H a = some u) : Rd H a u := by
  obtain ⟨_, x, h, n⟩ := rdH_some e
  exact rd_of_er h n
theorem sqT_rd {a : Addr} {vs : List V} (h : rdH B H a = some (.tup vs)) : SqT K H a vs := .inl (rd_of_rdH h)
theorem sqL_rd {a : Addr} {vs : List V} (h : rdH B H a = some (.lst vs)) : SqL K H a vs := .inl (rd_of_rdH h)
theorem rdH_same {H H' : Hp} (s : ∀ a o, a ∉ B → H a = some o → H' a = some o) : Same (rdH B H) (rdH B H') := fun a u e => by
  obtain ⟨hb, x, h, n⟩ := rdH_some e
  exact rdH_of hb (s a x hb h) n

/-! ### what is owned -/
/-- the items of a node, each with its own addresses -/
def OwnL (P : V → D → List Addr → Prop) : List V → List D → List Addr → Prop
  | [], [], fp => fp = []
  | v :: vs, d :: ds, fp => ∃ f1 f2, fp = f1 ++ f2 ∧ P v d f1 ∧ OwnL P vs ds f2
  | _, _, _ => False
/-- v stands for d; the first n layers of its lists, dicts and instances are nobody else's, they stand at fp -/
def Own (K : PySem.W.Frag) (F H : Hp) : Nat → V → D → List Addr → Prop
  | 0, v, d, fp => R K F v d ∧ fp = []
  | n + 1, v, .lst ds, fp => ∃ a vs f, v = .ref a ∧ H a = some (.lst vs) ∧ fp = a :: f ∧ OwnL (Own K F H n) vs ds f
  | n + 1, v, .dK es, fp => ∃ a kvs f, v = .ref a ∧ H a = some (.dK kvs) ∧ fp = a :: f ∧ kvs.map (·.1) = es.map (·.1) ∧ OwnL (Own K F H n) (kvs.map (·.2)) (es.map (·.2)) f
  | n + 1, v, .dT es, fp => ∃ a kvs f, v = .ref a ∧ H a = some (.dT kvs) ∧ fp = a :: f ∧ kvs.map (·.1) = es.map (·.1) ∧ OwnL (Own K F H n) (kvs.map (·.2)) (es.map (·.2)) f
  | n + 1, v, .obj C es, fp => ∃ a dx fs f, v = .ref a ∧ H a = some (.ins C dx fs) ∧ fp = a :: f ∧ fs.map (·.1) = es.map (·.1) ∧ OwnL (Own K F H n) (fs.map (·.2)) (es.map (·.2)) f
  | n + 1, v, .tup ds, fp => ∃ a vs, v = .ref a ∧ F a = some (.tup vs) ∧ OwnL (Own K F H n) vs ds fp
  | _ + 1, v, d, fp => R K F v d ∧ fp = []
theorem OwnL.imp {P Q : V → D → List Addr → Prop} : ∀ {vs : List V} {ds : List D} {fp : List Addr}, OwnL P vs ds fp → (∀ v d f, (∀ a ∈ f, a ∈ fp) → P v d f → Q v d f) → OwnL Q vs ds fp
  | [], [], _, h, _ => h
  | v :: vs, d :: ds, fp, ⟨f1, f2, e, h, t⟩, k => ⟨f1, f2, e, k v d f1 (fun a ha => by rw [e]; exact List.mem_append_left _ ha) h,
      OwnL.imp t fun v d f hf => k v d f fun a ha => by rw [e]; exact List.mem_append_right _ (hf a ha)⟩
/-- what is owned stays while its addresses stay -/
theorem Own.mono (sF : Same F F') : ∀ {n : Nat} {v : V} {d : D} {fp : List Addr}, (∀ a ∈ fp, ∀ o, H a = some o → H' a = some o) → Own K F H n v d fp → Own K F' H' n v d fp
  | 0, v, d, fp, _, h => ⟨h.1.mono sF, h.2⟩
  | n + 1, v, .lst ds, fp, s, ⟨a, vs, f, e, h, ef, t⟩ => ⟨a, vs, f, e, s a (by rw [ef]; exact List.mem_cons_self) _ h, ef, t.imp fun v d g hg => Own.mono sF fun b hb => s b (by rw [ef]; exact List.mem_cons_of_mem _ (hg b hb))⟩
  | n + 1, v, .dK es, fp, s, ⟨a, vs, f, e, h, ef, ek, t⟩ => ⟨a, vs, f, e, s a (by rw [ef]; exact List.mem_cons_self) _ h, ef, ek, t.imp fun v d g hg => Own.mono sF fun b hb => s b (by rw [ef]; exact List.mem_cons_of_mem _ (hg b hb))⟩
  | n + 1, v, .dT es, fp, s, ⟨a, vs, f, e, h, ef, ek, t⟩ => ⟨a, vs, f, e, s a (by rw [ef]; exact List.mem_cons_self) _ h, ef, ek, t.imp fun v d g hg => Own.mono sF fun b hb => s b (by rw [ef]; exact List.mem_cons_of_mem _ (hg b hb))⟩
  | n + 1, v, .obj C es, fp, s, ⟨a, dx, vs, f, e, h, ef, ek, t⟩ => ⟨a, dx, vs, f, e, s a (by rw [ef]; exact List.mem_cons_self) _ h, ef, ek, t.imp fun v d g hg => Own.mono sF fun b hb => s b (by rw [ef]; exact List.mem_cons_of_mem _ (hg b hb))⟩
  | n + 1, v, .tup ds, fp, s, ⟨a, vs, e, h, t⟩ => ⟨a, vs, e, sF _ _ h, t.imp fun v d g hg => Own.mono sF fun b hb => s b (hg b hb)⟩
  | n + 1, v, .non, fp, s, h => ⟨h.1.mono sF, h.2⟩
  | n + 1, v, .bl _, fp, s, h => ⟨h.1.mono sF, h.2⟩
  | n + 1, v, .int _, fp, s, h => ⟨h.1.mono sF, h.2⟩
  | n + 1, v, .str _, fp, s, h => ⟨h.1.mono sF, h.2⟩
  | n + 1, v, .raw _, fp, s, h => ⟨h.1.mono sF, h.2⟩
/-- what stands for the data in a heap that has all -/
theorem OwnL.toRL {P : V → D → List Addr → Prop} {G : Hp} : ∀ {vs : List V} {ds : List D} {fp : List Addr}, OwnL P vs ds fp → (∀ v d f, (∀ a ∈ f, a ∈ fp) → P v d f → R K G v d) → RL K G vs ds
  | [], [], _, _, _ => .nil
  | v :: vs, d :: ds, fp, ⟨f1, f2, e, h, t⟩, k => .cons (k v d f1 (fun a ha => by rw [e]; exact List.mem_append_left _ ha) h) (OwnL.toRL t fun v d f hf => k v d f fun a ha => by rw [e]; exact List.mem_append_right _ (hf a ha))
theorem Own.toR {G : Hp} (sF : Same F G) : ∀ {n : Nat} {v : V} {d : D} {fp : List Addr}, (∀ a ∈ fp, ∀ o, H a = some o → erO o = o → G a = some o) → Own K F H n v d fp → R K G v d
  | 0, v, d, fp, _, h => h.1.mono sF
  | n + 1, v, .lst ds, fp, s, ⟨a, vs, f, e, h, ef, t⟩ => by
    subst e
    exact .lst (s a (by rw [ef]; exact List.mem_cons_self) _ h rfl) (t.toRL fun v d g hg => Own.toR sF fun b hb => s b (by rw [ef]; exact List.mem_cons_of_mem _ (hg b hb)))
  | n + 1, v, .dK es, fp, s, ⟨a, vs, f, e, h, ef, ek, t⟩ => by
    subst e
    exact .dK (s a (by rw [ef]; exact List.mem_cons_self) _ h rfl) ek (t.toRL fun v d g hg => Own.toR sF fun b hb => s b (by rw [ef]; exact List.mem_cons_of_mem _ (hg b hb)))
  | n + 1, v, .dT es, fp, s, ⟨a, vs, f, e, h, ef, ek, t⟩ => by
    subst e
    exact .dT (s a (by rw [ef]; exact List.mem_cons_self) _ h rfl) ek (t.toRL fun v d g hg => Own.toR sF fun b hb => s b (by rw [ef]; exact List.mem_cons_of_mem _ (hg b hb)))
  | n + 1, v, .obj C es, fp, s, ⟨a, dx, vs, f, e, h, ef, ek, t⟩ => by
    subst e
    exact .obj (s a (by rw [ef]; exact List.mem_cons_self) _ h rfl) ek (t.toRL fun v d g hg => Own.toR sF fun b hb => s b (by rw [ef]; exact List.mem_cons_of_mem _ (hg b hb)))
  | n + 1, v, .tup ds, fp, s, ⟨a, vs, e, h, t⟩ => by
    subst e
    exact .tup (sF _ _ h) (t.toRL fun v d g hg => Own.toR sF fun b hb => s b (hg b hb))
  | n + 1, v, .non, fp, s, h => h.1.mono sF
  | n + 1, v, .bl _, fp, s, h => h.1.mono sF
  | n + 1, v, .int _, fp, s, h => h.1.mono sF
  | n + 1, v, .str _, fp, s, h => h.1.mono sF
  | n + 1, v, .raw _, fp, s, h => h.1.mono sF
theorem OwnL.there {P : V → D → List Addr → Prop} {p : Addr → Prop} : ∀ {vs : List V} {ds : List D} {fp : List Addr}, OwnL P vs ds fp → (∀ v d f, P v d f → ∀ a ∈ f, p a) → ∀ a ∈ fp, p a
  | [], [], _, h, _, a, ha => by rw [show _ = _ from h] at ha; cases ha
  | v :: vs, d :: ds, fp, ⟨f1, f2, e, h, t⟩, k, a, ha => by
    rw [e] at ha
    rcases List.mem_append.mp ha with z | z
    · exact k v d f1 h a z
    · exact OwnL.there t k a z
/-- what is owned stands in the heap -/
theorem Own.there : ∀ {n : Nat} {v : V} {d : D} {fp : List Addr}, Own K F H n v d fp → ∀ a ∈ fp, ∃ o, H a = some o ∧ Mut (some o)
  | 0, v, d, fp, h, a, ha => by rw [h.2] at ha; cases ha
  | n + 1, v, .lst ds, fp, ⟨a, vs, f, e, h, ef, t⟩, b, hb => by
    rw [ef] at hb
    rcases List.mem_cons.mp hb with z | z
    · exact ⟨HO.lst vs, by rw [z]; exact h, trivial⟩
    · exact t.there (fun v d f q => Own.there q) b z
  | n + 1, v, .dK es, fp, ⟨a, vs, f, e, h, ef, ek, t⟩, b, hb => by
    rw [ef] at hb
    rcases List.mem_cons.mp hb with z | z
    · exact ⟨HO.dK vs, by rw [z]; exact h, trivial⟩
    · exact t.there (fun v d f q => Own.there q) b z
  | n + 1, v, .dT es, fp, ⟨a, vs, f, e, h, ef, ek, t⟩, b, hb => by
    rw [ef] at hb
    rcases List.mem_cons.mp hb with z | z
    · exact ⟨HO.dT vs, by rw [z]; exact h, trivial⟩
    · exact t.there (fun v d f q => Own.there q) b z
  | n + 1, v, .obj C es, fp, ⟨a, dx, vs, f, e, h, ef, ek, t⟩, b, hb => by
    rw [ef] at hb
    rcases List.mem_cons.mp hb with z | z
    · exact ⟨HO.ins C dx vs, by rw [z]; exact h, trivial⟩
    · exact t.there (fun v d f q => Own.there q) b z
  | n + 1, v, .tup ds, fp, ⟨a, vs, e, h, t⟩, b, hb => t.there (fun v d f q => Own.there q) b hb
  | n + 1, v, .non, fp, h, a, ha => by rw [h.2] at ha; cases ha
  | n + 1, v, .bl _, fp, h, a, ha => by rw [h.2] at ha; cases ha
  | n + 1, v, .int _, fp, h, a, ha => by rw [h.2] at ha; cases ha
  | n + 1, v, .str _, fp, h, a, ha => by rw [h.2] at ha; cases ha
  | n + 1, v, .raw _, fp, h, a, ha => by rw [h.2] at ha; cases ha
end

/-! ### data without lists, dicts and instances -/
mutual
def D.flat : D → Bool
  | .tup xs => flatL xs
  | .lst _ => false
  | .dK _ => false
  | .dT _ => false
  | .obj _ _ => false
  | _ => true
def flatL : List D → Bool
  | [] => true
  | d :: ds => d.flat && flatL ds
end
def isTup : HO → Prop
  | .tup _ => True
  | _ => False
mutual
theorem R.flat {K : PySem.W.Frag} {F G : Hp} (s : ∀ a vs, F a = some (.tup vs) → G a = some (.tup vs)) : ∀ {v : V} {d : D}, d.flat = true → R K F v d → R K G v d
  | _, _, _, .non => .non
  | _, _, _, .bl b => .bl b
  | _, _, _, .int i => .int i
  | _, _, _, .str x => .str x
  | _, _, _, .raw v => .raw v
  | _, _, e, .tup h r => .tup (s _ _ h) (RL.flat s (by simpa [D.flat] using e) r)
  | _, _, e, .lst h r => by simp [D.flat] at e
  | _, _, e, .dK h hk r => by simp [D.flat] at e
  | _, _, e, .dT h hk r => by simp [D.flat] at e
  | _, _, e, .obj h hk r => by simp [D.flat] at e
theorem RL.flat {K : PySem.W.Frag} {F G : Hp} (s : ∀ a vs, F a = some (.tup vs) → G a = some (.tup vs)) : ∀ {vs : List V} {ds : List D}, flatL ds = true → RL K F vs ds → RL K G vs ds
  | _, _, _, .nil => .nil
  | _, _, e, .cons h t => by
    rw [flatL, Bool.and_eq_true] at e
    exact .cons (R.flat s e.1 h) (RL.flat s e.2 t)
end
/-- n layers, then flat -/
def flatN : Nat → D → Bool
  | 0, d => d.flat
  | n + 1, .lst ds => ds.all (flatN n)
  | n + 1, .dK es => es.all fun e => flatN n e.2
  | n + 1, .dT es => es.all fun e => flatN n e.2
  | n + 1, .obj _ es => es.all fun e => flatN n e.2
  | n + 1, .tup ds => ds.all (flatN n)
  | _ + 1, _ => true
section
variable {K : PySem.W.Frag} {F F' G H H' : Hp} {B : List Addr}
theorem OwnL.impD {P Q : V → D → List Addr → Prop} : ∀ {vs : List V} {ds : List D} {fp : List Addr}, OwnL P vs ds fp → (∀ v d f, d ∈ ds → P v d f → Q v d f) → OwnL Q vs ds fp
  | [], [], _, h, _ => h
  | v :: vs, d :: ds, fp, ⟨f1, f2, e, h, t⟩, k => ⟨f1, f2, e, k v d f1 List.mem_cons_self h, OwnL.impD t fun v d f hd => k v d f (List.mem_cons_of_mem _ hd)⟩
theorem all_snd {κ : Type} {es : List (κ × D)} {p : D → Bool} (h : (es.all fun e => p e.2) = true) : ∀ d ∈ es.map (·.2), p d = true := fun d hd => by
  obtain ⟨e, he, rfl⟩ := List.mem_map.mp hd
  exact List.all_eq_true.mp h e he
theorem Own.flat (s : ∀ a vs, F a = some (.tup vs) → G a = some (.tup vs)) : ∀ {n : Nat} {v : V} {d : D} {fp : List Addr}, flatN n d = true → Own K F H n v d fp → Own K G H n v d fp
  | 0, v, d, fp, e, h => ⟨h.1.flat s e, h.2⟩
  | n + 1, v, .lst ds, fp, e, ⟨a, vs, f, ev, h, ef, t⟩ => ⟨a, vs, f, ev, h, ef, t.impD fun v d g hd => Own.flat s (List.all_eq_true.mp e d hd)⟩
  | n + 1, v, .dK es, fp, e, ⟨a, vs, f, ev, h, ef, ek, t⟩ => ⟨a, vs, f, ev, h, ef, ek, t.impD fun v d g hd => Own.flat s (all_snd e d hd)⟩
  | n + 1, v, .dT es, fp, e, ⟨a, vs, f, ev, h, ef, ek, t⟩ => ⟨a, vs, f, ev, h, ef, ek, t.impD fun v d g hd => Own.flat s (all_snd e d hd)⟩
  | n + 1, v, .obj C es, fp, e, ⟨a, dx, vs, f, ev, h, ef, ek, t⟩ => ⟨a, dx, vs, f, ev, h, ef, ek, t.impD fun v d g hd => Own.flat s (all_snd e d hd)⟩
  | n + 1, v, .tup ds, fp, e, ⟨a, vs, ev, h, t⟩ => ⟨a, vs, ev, s _ _ h, t.impD fun v d g hd => Own.flat s (List.all_eq_true.mp e d hd)⟩
  | n + 1, v, .non, fp, e, h => ⟨h.1.flat s rfl, h.2⟩
  | n + 1, v, .bl _, fp, e, h => ⟨h.1.flat s rfl, h.2⟩
  | n + 1, v, .int _, fp, e, h => ⟨h.1.flat s rfl, h.2⟩
  | n + 1, v, .str _, fp, e, h => ⟨h.1.flat s rfl, h.2⟩
  | n + 1, v, .raw _, fp, e, h => ⟨h.1.flat s rfl, h.2⟩
end

/-! ### the law's bag: its list, the cells, what is left of them, the script -/
def BagOk (B : List Addr) (H : Hp) : Prop :=
  B = [] ∨ ∃ (b c l : Addr) (ts : List Addr) (cells left : List Int) (turn : Int), B = b :: c :: l :: ts ∧ (∀ t ∈ ts, ∃ o xs, H t = some (.frz o (.lst xs))) ∧ H b = some (.lst [.ref c, .ref l, .int turn]) ∧ H c = some (.lst (cells.map V.int)) ∧ H l = some (.lst (left.map V.int)) ∧
    b ≠ c ∧ b ≠ l ∧ c ≠ l ∧ 0 ≤ turn ∧ 0 < cells.length ∧ cells.length ≤ 63 ∧ left.length = cells.length

structure WF (B : List Addr) (F H : Hp) : Prop where
  sub : Same F (rdH B H)
  lock : ∀ a o u, a ∉ B → H a = some (.frz o u) → isDct u
  bag : BagOk B H
/-- an expression: nothing that stood is changed but the bag; what may be read grows by what is new, by tuples and by A -/
structure Step (B A : List Addr) (F H F' H' : Hp) : Prop where
  same : ∀ a o, a ∉ B → H a = some o → H' a = some o
  fs : Same F F'
  fresh : ∀ a u, F' a = some u → F a = some u ∨ H a = none ∨ isTup u ∨ a ∈ A
  wf : WF B F' H'
def OwnE (K : PySem.W.Frag) (F H : Hp) : L2.St → Env → List Addr → Prop
  | [], [], fp => fp = []
  | _ :: σ, none :: ρ, fp => OwnE K F H σ ρ fp
  | some v :: σ, some (n, d) :: ρ, fp => ∃ f1 f2, fp = f1 ++ f2 ∧ Own K F H n v d f1 ∧ OwnE K F H σ ρ f2
  | _, _, _ => False
/-- the state of a def's body. Z0: what stands and stays; F0: what could be read at the start; Pn: the slots that keep their values -/
structure StOk (K : PySem.W.Frag) (B : List Addr) (Pn : List V) (Z0 F0 F H : Hp) (σ : L2.St) (ρ : Env) (fp : List Addr) : Prop where
  wf : WF B F H
  own : OwnE K F H σ ρ fp
  nd : fp.Nodup
  out : ∀ a ∈ fp, F a = none ∧ a ∉ B ∧ Z0 a = none
  z : Same Z0 H
  zB : ∀ a ∈ B, Z0 a = none
  f : Same F0 F
  fr : ∀ a u, F a = some u → F0 a = some u ∨ Z0 a = none ∨ isTup u
  pn : ∀ (i : Nat) (v : V), Pn[i]? = some v → σ[i]? = some (some v)
inductive Mode where
  | rd | bor (n : Nat) | own (n : Nat)
/-- a value: read alone; owned by somebody else; owned -/
def Val (K : PySem.W.Frag) (m : Mode) (B : List Addr) (F H : Hp) (v : V) (d : D) (fp : List Addr) : Prop :=
  match m with
  | .rd => R K (rdH B H) v d ∧ fp = []
  | .bor n => (∃ f, Own K F H n v d f ∧ ∀ a ∈ f, a ∉ B) ∧ fp = []
  | .own n => Own K F H n v d fp

section
variable {K : PySem.W.Frag} {F F0 Z0 F' G H H' : Hp} {B A fp : List Addr} {Pn : List V} {σ : L2.St} {ρ : Env}
theorem WF.outB (w : WF B F H) {a : Addr} (h : a ∈ B) : F a = none := by
  cases q : F a with
  | none => rfl
  | some u =>
    have := w.sub a u q
    exact absurd h (rdH_some this).1
theorem OwnE.mono (sF : Same F F') : ∀ {σ : L2.St} {ρ : Env} {fp : List Addr}, (∀ a ∈ fp, ∀ o, H a = some o → H' a = some o) → OwnE K F H σ ρ fp → OwnE K F' H' σ ρ fp
  | [], [], _, _, h => h
  | _ :: σ, none :: ρ, fp, s, h => OwnE.mono (σ := σ) (ρ := ρ) sF s h
  | some v :: σ, some (n, d) :: ρ, fp, s, ⟨f1, f2, e, h, t⟩ =>
    ⟨f1, f2, e, h.mono sF fun a ha => s a (by rw [e]; exact List.mem_append_left _ ha), OwnE.mono (σ := σ) (ρ := ρ) sF (fun a ha => s a (by rw [e]; exact List.mem_append_right _ ha)) t⟩
theorem OwnE.there : ∀ {σ : L2.St} {ρ : Env} {fp : List Addr}, OwnE K F H σ ρ fp → ∀ a ∈ fp, ∃ o, H a = some o ∧ Mut (some o)
  | [], [], _, h, a, ha => by rw [show _ = _ from h] at ha; cases ha
  | _ :: σ, none :: ρ, fp, h, a, ha => OwnE.there (σ := σ) (ρ := ρ) h a ha
  | some v :: σ, some (n, d) :: ρ, fp, ⟨f1, f2, e, h, t⟩, a, ha => by
    rw [e] at ha
    rcases List.mem_append.mp ha with z | z
    · exact h.there a z
    · exact OwnE.there (σ := σ) (ρ := ρ) t a z
theorem OwnE.len : ∀ {σ : L2.St} {ρ : Env} {fp : List Addr}, OwnE K F H σ ρ fp → σ.length = ρ.length
  | [], [], _, h => rfl
  | _ :: σ, none :: ρ, fp, h => by rw [List.length_cons, List.length_cons, OwnE.len (σ := σ) (ρ := ρ) h]
  | some v :: σ, some (n, d) :: ρ, fp, ⟨f1, f2, e, h, t⟩ => by rw [List.length_cons, List.length_cons, OwnE.len (σ := σ) (ρ := ρ) t]
theorem Step.refl (w : WF B F H) : Step B A F H F H := ⟨fun _ _ _ h => h, fun _ _ h => h, fun _ _ h => .inl h, w⟩
theorem Step.trans {F1 H1 : Hp} {A1 : List Addr} (s : Step B A F H F1 H1) (t : Step B A1 F1 H1 F' H') (hA : ∀ a ∈ A1, H a = none ∨ a ∈ A) : Step B A F H F' H' :=
  ⟨fun a o hb h => t.same a o hb (s.same a o hb h), fun a u h => t.fs a u (s.fs a u h), fun a u h => by
    rcases t.fresh a u h with q | q | q | q
    · exact s.fresh a u q
    · right; left
      cases e : H a with
      | none => rfl
      | some o =>
        by_cases hb : a ∈ B
        · have := t.wf.outB hb
          rw [this] at h; cases h
        · rw [s.same a o hb e] at q; cases q
    · exact .inr (.inr (.inl q))
    · exact (hA a q).elim (fun z => .inr (.inl z)) fun z => .inr (.inr (.inr z)), t.wf⟩
/-- an owned thing is no bag's, no frozen one's behind a step -/
theorem Step.out (s : Step B A F H F' H') {a : Addr} {o : HO} (h : H a = some o) (m : Mut (some o)) (hB : a ∉ B) (hF : F a = none) (hA : a ∉ A) : F' a = none := by
  cases q : F' a with
  | none => rfl
  | some u =>
    exfalso
    rcases s.fresh a u q with z | z | z | z
    · rw [hF] at z; cases z
    · rw [h] at z; cases z
    · have e := s.wf.sub a u q
      obtain ⟨_, x, hx, ex⟩ := rdH_some e
      rw [s.same a o hB h] at hx
      cases hx
      cases o <;> cases u <;> first | (cases ex; done) | (exact z) | (exact m)
    · exact hA z
theorem StOk.step (S : StOk K B Pn Z0 F0 F H σ ρ fp) (s : Step B A F H F' H') (hA : ∀ a ∈ A, a ∉ fp ∧ Z0 a = none) : StOk K B Pn Z0 F0 F' H' σ ρ fp where
  wf := s.wf
  own := S.own.mono s.fs fun a ha o e => s.same a o (S.out a ha).2.1 e
  nd := S.nd
  out := fun a ha => by
    obtain ⟨o, e, m⟩ := S.own.there a ha
    obtain ⟨h1, h2, h3⟩ := S.out a ha
    exact ⟨s.out e m h2 h1 fun z => (hA a z).1 ha, h2, h3⟩
  z := fun a o e => s.same a o (fun hb => by rw [S.zB a hb] at e; cases e) (S.z a o e)
  zB := S.zB
  f := fun a u e => s.fs a u (S.f a u e)
  fr := fun a u e => by
    rcases s.fresh a u e with q | q | q | q
    · exact S.fr a u q
    · right; left
      cases z : Z0 a with
      | none => rfl
      | some o => rw [S.z a o z] at q; cases q
    · exact .inr (.inr q)
    · exact .inr (.inl (hA a q).2)
  pn := S.pn
/-- forget the base -/
theorem StOk.base (S : StOk K B Pn Z0 F0 F H σ ρ fp) : StOk K B [] noH noH F H σ ρ fp :=
  ⟨S.wf, S.own, S.nd, fun a ha => ⟨(S.out a ha).1, (S.out a ha).2.1, rfl⟩, fun _ _ e => (by cases e), fun _ _ => rfl, fun _ _ e => (by cases e), fun _ _ _ => .inr (.inl rfl), fun i v e => (by simp at e)⟩
theorem Val.step {m : Mode} {v : V} {d : D} (h : Val K m B F H v d fp) (s : Step B A F H F' H') (hB : ∀ a ∈ fp, a ∉ B) : Val K m B F' H' v d fp := by
  cases m with
  | rd => exact ⟨h.1.mono (rdH_same s.same), h.2⟩
  | bor n =>
    obtain ⟨⟨f, h, hf⟩, e⟩ := h
    exact ⟨⟨f, Own.mono s.fs (fun a ha o e => s.same a o (hf a ha) e) h, hf⟩, e⟩
  | own n => exact Own.mono s.fs (fun a ha o e => s.same a o (hB a ha) e) h
/-- what may be read alone -/
theorem Val.rd {m : Mode} {v : V} {d : D} (w : WF B F H) (hB : ∀ a ∈ fp, a ∉ B) (h : Val K m B F H v d fp) : R K (rdH B H) v d := by
  cases m with
  | rd => exact h.1
  | bor n =>
    obtain ⟨⟨f, h, hf⟩, e⟩ := h
    exact Own.toR w.sub (fun a ha o e er => rdH_of (hf a ha) e er) h
  | own n => exact Own.toR w.sub (fun a ha o e er => rdH_of (hB a ha) e er) h
theorem Val.there {m : Mode} {v : V} {d : D} (h : Val K m B F H v d fp) : ∀ a ∈ fp, ∃ o, H a = some o ∧ Mut (some o) := by
  cases m with
  | rd => intro a ha; rw [h.2] at ha; cases ha
  | bor n => intro a ha; rw [h.2] at ha; cases ha
  | own n => exact Own.there h
/-- an atom is in every mode -/
def atomD : D → Bool
  | .non => true
  | .bl _ => true
  | .int _ => true
  | .str _ => true
  | .raw _ => true
  | _ => false
theorem Own.atom {n : Nat} {v : V} {d : D} (ha : atomD d = true) (h : R K F v d) : Own K F H n v d [] := by
  cases n with
  | zero => exact ⟨h, rfl⟩
  | succ n => cases d <;> first | exact ⟨h, rfl⟩ | (cases ha)
theorem Val.atom {m : Mode} {v : V} {d : D} (ha : atomD d = true) (h : ∀ F, R K F v d) : Val K m B F H v d [] := by
  cases m with
  | rd => exact ⟨h _, rfl⟩
  | bor n => exact ⟨⟨[], Own.atom ha (h _), fun a h => (by cases h)⟩, rfl⟩
  | own n => exact Own.atom ha (h _)
end
end GK

namespace GK
open PySem PySem.Spec PyProof.Rows L2

/-! ### the judgements over data -/
abbrev FE := Env → (D → Prop) → Prop
abbrev FT := Env → (Bool → Prop) → Prop
abbrev FA := Env → (List D → Prop) → Prop
/-- what is wanted behind a value -/
def Post (K : PySem.W.Frag) (B A : List Addr) (F H : Hp) (m : Mode) (R : D → Prop) (Q : VK) : Prop :=
  ∀ F' H' v d fp, Step B A F H F' H' → Val K m B F' H' v d fp → (∀ a ∈ fp, (a ∈ A ∨ H a = none) ∧ F' a = none ∧ a ∉ B) → fp.Nodup → R d → Q v H'
def PostT (B A : List Addr) (F H : Hp) (R : Bool → Prop) (Q : Bool → Hp → Prop) : Prop :=
  ∀ F' H' b, Step B A F H F' H' → R b → Q b H'
def ValL (K : PySem.W.Frag) (B : List Addr) (F H : Hp) : List Mode → List V → List D → List Addr → Prop
  | [], [], [], fp => fp = []
  | m :: ms, v :: vs, d :: ds, fp => ∃ f1 f2, fp = f1 ++ f2 ∧ Val K m B F H v d f1 ∧ ValL K B F H ms vs ds f2
  | _, _, _, _ => False
def PostA (K : PySem.W.Frag) (B A : List Addr) (F H : Hp) (ms : List Mode) (R : List D → Prop) (Q : List V → Hp → Prop) : Prop :=
  ∀ F' H' vs ds fp, Step B A F H F' H' → ValL K B F' H' ms vs ds fp → (∀ a ∈ fp, (a ∈ A ∨ H a = none) ∧ F' a = none ∧ a ∉ B) → fp.Nodup → R ds → Q vs H'
def tD (K : PySem.W.Frag) (B : List Addr) (m : Mode) (f : FE) : TE := fun σ H Q => ∃ F ρ fp R, StOk K B [] noH noH F H σ ρ fp ∧ f ρ R ∧ Post K B [] F H m R Q
def tDT (K : PySem.W.Frag) (B : List Addr) (f : FT) : TT := fun σ H Q => ∃ F ρ fp R, StOk K B [] noH noH F H σ ρ fp ∧ f ρ R ∧ PostT B [] F H R Q
def tDA (K : PySem.W.Frag) (B : List Addr) (ms : List Mode) (f : FA) : TA := fun σ H Q => ∃ F ρ fp R, StOk K B [] noH noH F H σ ρ fp ∧ f ρ R ∧ PostA K B [] F H ms R Q
abbrev DE (X : Cx) (B : List Addr) (e : Expr) (m : Mode) (f : FE) : Prop := PE X e (tD X.K B m f)
abbrev DT (X : Cx) (B : List Addr) (e : Expr) (f : FT) : Prop := PT X e (tDT X.K B f)
abbrev DA (X : Cx) (B : List Addr) (es : List Expr) (ms : List Mode) (f : FA) : Prop := PA X es (tDA X.K B ms f)
theorem PE.imp {X : Cx} {e : Expr} {t t' : TE} (h : PE X e t) (k : ∀ σ H Q, t' σ H Q → t σ H Q) : PE X e t' := ⟨fun pins s σ H Q I q => h.run pins s σ H Q I (k σ H Q q)⟩
theorem PT.imp {X : Cx} {e : Expr} {t t' : TT} (h : PT X e t) (k : ∀ σ H Q, t' σ H Q → t σ H Q) : PT X e t' := ⟨fun pins s σ H Q I q => h.run pins s σ H Q I (k σ H Q q)⟩
theorem PW.imp {X : Cx} {e : Expr} {t t' : TT} (h : PW X e t) (k : ∀ σ H Q, t' σ H Q → t σ H Q) : PW X e t' := ⟨fun w pins s σ H Q I q => h.run w pins s σ H Q I (k σ H Q q)⟩
theorem PA.imp {X : Cx} {e : List Expr} {t t' : TA} (h : PA X e t) (k : ∀ σ H Q, t' σ H Q → t σ H Q) : PA X e t' := ⟨fun p pins s σ H Q I q => h.run p pins s σ H Q I (k σ H Q q)⟩
theorem PS.imp {X : Cx} {e : Stmt} {t t' : TS} (h : PS X e t) (k : ∀ D σ H, t' D σ H → t D σ H) : PS X e t' := ⟨fun pins s σ H D I q => h.run pins s σ H D I (k D σ H q)⟩
theorem PSs.imp {X : Cx} {e : List Stmt} {t t' : TS} (h : PSs X e t) (k : ∀ D σ H, t' D σ H → t D σ H) : PSs X e t' := ⟨fun pins s σ H D I q => h.run pins s σ H D I (k D σ H q)⟩

section
variable {K : PySem.W.Frag} {B A : List Addr} {F F1 F' H H1 H' : Hp} {m : Mode} {Pn : List V} {σ : L2.St} {ρ : Env} {fp : List Addr}
/-- behind a step: what is new there was new before -/
theorem Step.new {a : Addr} (s : Step B A F H F1 H1) (hb : a ∉ B) (h : H1 a = none) : H a = none := by
  cases q : H a with
  | none => rfl
  | some o => rw [s.same a o hb q] at h; cases h
theorem Step.weak {A1 : List Addr} (s : Step B A1 F H F1 H1) (h : ∀ a ∈ A1, a ∈ A) : Step B A F H F1 H1 :=
  ⟨s.same, s.fs, fun a u e => (s.fresh a u e).imp id fun z => z.imp id fun z => z.imp id (h a), s.wf⟩
theorem Post.after {R : D → Prop} {Q : VK} {A1 : List Addr} (k : Post K B A F H m R Q) (s : Step B A F H F1 H1) (hA : ∀ a ∈ A1, a ∈ A ∨ H a = none) : Post K B A1 F1 H1 m R Q :=
  fun F' H' v d fp s' hv ho hn hR => k F' H' v d fp (s.trans s' fun a ha => (hA a ha).symm) hv (fun a ha => by
    obtain ⟨h1, h2, h3⟩ := ho a ha
    refine ⟨?_, h2, h3⟩
    rcases h1 with z | z
    · exact hA a z
    · exact .inr (s.new h3 z)) hn hR
theorem PostA.after {ms : List Mode} {R : List D → Prop} {Q : List V → Hp → Prop} {A1 : List Addr} (k : PostA K B A F H ms R Q) (s : Step B A F H F1 H1) (hA : ∀ a ∈ A1, a ∈ A ∨ H a = none) : PostA K B A1 F1 H1 ms R Q :=
  fun F' H' v d fp s' hv ho hn hR => k F' H' v d fp (s.trans s' fun a ha => (hA a ha).symm) hv (fun a ha => by
    obtain ⟨h1, h2, h3⟩ := ho a ha
    refine ⟨?_, h2, h3⟩
    rcases h1 with z | z
    · exact hA a z
    · exact .inr (s.new h3 z)) hn hR
theorem PostT.after {R : Bool → Prop} {Q : Bool → Hp → Prop} {A1 : List Addr} (k : PostT B A F H R Q) (s : Step B A F H F1 H1) (hA : ∀ a ∈ A1, a ∈ A ∨ H a = none) : PostT B A1 F1 H1 R Q :=
  fun F' H' b s' hR => k F' H' b (s.trans s' fun a ha => (hA a ha).symm) hR
/-- an atom comes -/
theorem Post.at {R : D → Prop} {Q : VK} {v : V} {d : D} (k : Post K B A F H m R Q) (w : WF B F H) (ha : atomD d = true) (h : ∀ F, GK.R K F v d) (q : R d) : Q v H := by
  exact k F H v d [] (Step.refl w) (Val.atom ha h) (fun a h => (by cases h)) List.nodup_nil q
theorem Post.int {R : D → Prop} {Q : VK} {i : Int} (k : Post K B A F H m R Q) (w : WF B F H) (q : R (.int i)) : Q (.int i) H := k.at w rfl (fun _ => .int i) q
theorem Post.bl {R : D → Prop} {Q : VK} {b : Bool} (k : Post K B A F H m R Q) (w : WF B F H) (q : R (.bl b)) : Q (.bl b) H := k.at w rfl (fun _ => .bl b) q
theorem Post.str {R : D → Prop} {Q : VK} {b : Str} (k : Post K B A F H m R Q) (w : WF B F H) (q : R (.str b)) : Q (.str b) H := k.at w rfl (fun _ => .str b) q
theorem Post.non {R : D → Prop} {Q : VK} (k : Post K B A F H m R Q) (w : WF B F H) (q : R .non) : Q .non H := k.at w rfl (fun _ => .non) q
end

/-! ### operations by values -/
/-- the addresses of a value that is owned -/
def Fp (B : List Addr) (F : Hp) (fp : List Addr) : Prop := (∀ a ∈ fp, F a = none ∧ a ∉ B) ∧ fp.Nodup
def Op1 (K : PySem.W.Frag) (r : V → Hp → VK → Prop) (m1 m : Mode) (g : D → (D → Prop) → Prop) : Prop :=
  ∀ B F H x d fp R Q, WF B F H → Val K m1 B F H x d fp → Fp B F fp → g d R → Post K B fp F H m R Q → r x H Q
def Op2 (K : PySem.W.Frag) (r : R2) (m1 m2 m : Mode) (g : D → D → (D → Prop) → Prop) : Prop :=
  ∀ B F H x y d e fp R Q, WF B F H → (∃ f1 f2, fp = f1 ++ f2 ∧ Val K m1 B F H x d f1 ∧ Val K m2 B F H y e f2) → Fp B F fp → g d e R → Post K B fp F H m R Q → r x y H Q
def OpN (K : PySem.W.Frag) (r : List V → Hp → VK → Prop) (ms : List Mode) (m : Mode) (g : List D → (D → Prop) → Prop) : Prop :=
  ∀ B F H vs ds fp R Q, WF B F H → ValL K B F H ms vs ds fp → Fp B F fp → g ds R → Post K B fp F H m R Q → r vs H Q
abbrev fUn (g : D → (D → Prop) → Prop) (f : FE) : FE := fun ρ R => f ρ fun x => g x R
abbrev fBin (g : D → D → (D → Prop) → Prop) (f f' : FE) : FE := fun ρ R => f ρ fun x => f' ρ fun y => g x y R
abbrev fArgs (g : List D → (D → Prop) → Prop) (f : FA) : FE := fun ρ R => f ρ fun xs => g xs R
abbrev fCons (f : FE) (fs : FA) : FA := fun ρ R => f ρ fun x => fs ρ fun xs => R (x :: xs)
abbrev fNil : FA := fun _ R => R []
section
variable {K : PySem.W.Frag} {m m1 m2 : Mode} {σ : L2.St} {H : Hp}
theorem tD_un {r : V → Hp → VK → Prop} {g : D → (D → Prop) → Prop} {f : FE} {Q : VK} (hr : Op1 K r m1 m g) (h : tD K B m (fUn g f) σ H Q) : tD K B m1 f σ H fun x H1 => r x H1 Q := by
  obtain ⟨F, ρ, fp, R, S, hf, k⟩ := h
  exact ⟨F, ρ, fp, _, S, hf, fun F1 H1 v d fp1 s1 hv o1 n1 hg => hr B F1 H1 v d fp1 R Q s1.wf hv ⟨fun a ha => (o1 a ha).2, n1⟩ hg (k.after s1 fun a ha => (o1 a ha).1)⟩
theorem tD_bin {r : R2} {g : D → D → (D → Prop) → Prop} {f f' : FE} {Q : VK} (hr : Op2 K r m1 m2 m g) (h : tD K B m (fBin g f f') σ H Q) : tD K B m1 f σ H fun x H1 => tD K B m2 f' σ H1 fun y H2 => r x y H2 Q := by
  obtain ⟨F, ρ, fp, R, S, hf, k⟩ := h
  refine ⟨F, ρ, fp, _, S, hf, fun F1 H1 v1 d1 fp1 s1 hv1 o1 n1 hg1 => ?_⟩
  refine ⟨F1, ρ, fp, _, S.step s1 (fun a ha => by cases ha), hg1, fun F2 H2 v2 d2 fp2 s2 hv2 o2 n2 hg2 => ?_⟩
  have t1 := hv1.there
  have nn : ∀ a ∈ fp1, F2 a = none := fun a ha => by
    obtain ⟨o, e, mu⟩ := t1 a ha
    exact s2.out e mu (o1 a ha).2.2 (o1 a ha).2.1 fun z => by cases z
  refine hr B F2 H2 v1 v2 d1 d2 (fp1 ++ fp2) R Q s2.wf ⟨fp1, fp2, rfl, hv1.step s2 fun a ha => (o1 a ha).2.2, hv2⟩ ⟨fun a ha => ?_, ?_⟩ hg2 ((k.after s1 (A1 := fp1) fun a ha => (o1 a ha).1).after (s2.weak fun a ha => by cases ha) fun a ha => ?_)
  · rcases List.mem_append.mp ha with z | z
    · exact ⟨nn a z, (o1 a z).2.2⟩
    · exact (o2 a z).2
  · refine List.nodup_append.mpr ⟨n1, n2, fun a ha b hb e => ?_⟩
    subst e
    obtain ⟨o, e, mu⟩ := t1 a ha
    rcases (o2 a hb).1 with z | z
    · cases z
    · rw [e] at z; cases z
  · rcases List.mem_append.mp ha with z | z
    · exact .inl z
    · exact .inr ((o2 a z).1.elim (fun z => by cases z) id)
end
theorem de_un {X : Cx} {e : Expr} {op : UnaryOp} {pos : Pos} {m m1 : Mode} {r : V → Hp → VK → Prop} {g : D → (D → Prop) → Prop} {f : FE} (ho : UnR X (unaryOp op) r) (hr : Op1 X.K r m1 m g) (h : DE X B e m1 f) : DE X B (.UnaryOp op e pos) m (fUn g f) :=
  PE.imp (pe_un ho h) fun _ _ _ q => tD_un hr q
theorem de_op {X : Cx} {a b : Expr} {op : Operator} {pos : Pos} {m m1 m2 : Mode} {r : R2} {g : D → D → (D → Prop) → Prop} {f f' : FE} (ho : OpR X (binaryOp op) r) (hr : Op2 X.K r m1 m2 m g) (ha : DE X B a m1 f) (hb : DE X B b m2 f') :
    DE X B (.BinOp a op b pos) m (fBin g f f') := PE.imp (pe_op ho ha hb) fun _ _ _ q => tD_bin hr q
theorem de_cmp {X : Cx} {a b : Expr} {op : CmpOp} {pos : Pos} {m m1 m2 : Mode} {r : R2} {g : D → D → (D → Prop) → Prop} {f f' : FE} (ho : OpR X (compareOp op) r) (hr : Op2 X.K r m1 m2 m g) (ha : DE X B a m1 f) (hb : DE X B b m2 f') (hm : behindInMarks op b = false) :
    DE X B (.Compare a [op] [b] pos) m (fBin g f f') := PE.imp (pe_cmpR ho ha hb hm) fun _ _ _ q => tD_bin hr q
theorem de_ix {X : Cx} {a b : Expr} {pos : Pos} {m m1 m2 : Mode} {r : R2} {g : D → D → (D → Prop) → Prop} {f f' : FE} (ho : IxR X r) (hr : Op2 X.K r m1 m2 m g) (ha : DE X B a m1 f) (hb : DE X B b m2 f') (hs : PlainIx b) :
    DE X B (.Subscript a b pos) m (fBin g f f') := PE.imp (pe_ix ho ha hb hs) fun _ _ _ q => tD_bin hr q

/-! ### another mode -/
section
variable {K : PySem.W.Frag} {B A : List Addr} {F H : Hp} {m : Mode} {R : D → Prop} {Q : VK}
theorem Post.rd (k : Post K B A F H .rd R Q) : Post K B A F H m R Q := fun F' H' v d fp s hv ho hn hR =>
  k F' H' v d [] s ⟨hv.rd s.wf fun a ha => (ho a ha).2.2, rfl⟩ (fun a ha => by cases ha) List.nodup_nil hR
theorem Post.bor0 (k : Post K B A F H (.own 0) R Q) : Post K B A F H (.bor 0) R Q := fun F' H' v d fp s hv ho hn hR => by
  obtain ⟨⟨f, h, hf⟩, e⟩ := hv
  exact k F' H' v d [] s ⟨h.1, rfl⟩ (fun a ha => by cases ha) List.nodup_nil hR
theorem mut_er {o : HO} (m : Mut (some o)) : erO o = o := by cases o <;> first | rfl | exact m.elim
theorem Post.frz {n : Nat} (k : Post K B A F H (.own 0) R Q) : Post K B A F H (.own n) R Q := fun F' H' v d fp s hv ho hn hR => by
  have hv : Own K F' H' n v d fp := hv
  have sF : Same F' (fun a => if a ∈ fp then H' a else F' a) := fun a u e => by
    show (if a ∈ fp then H' a else F' a) = some u
    by_cases ha : a ∈ fp
    · rw [(ho a ha).2.1] at e; cases e
    · rw [if_neg ha]; exact e
  refine k (fun a => if a ∈ fp then H' a else F' a) H' v d [] ⟨s.same, fun a u e => sF a u (s.fs a u e), fun a u e => ?_, ⟨fun a u e => ?_, s.wf.lock, s.wf.bag⟩⟩ ⟨?_, rfl⟩ (fun a ha => by cases ha) List.nodup_nil hR
  · by_cases ha : a ∈ fp
    · rcases (ho a ha).1 with z | z
      · exact .inr (.inr (.inr z))
      · exact .inr (.inl z)
    · rw [if_neg ha] at e
      exact s.fresh a u e
  · by_cases ha : a ∈ fp
    · rw [if_pos ha] at e
      obtain ⟨o, eo, mu⟩ := hv.there a ha
      rw [eo] at e
      cases e
      exact rdH_of (ho a ha).2.2 eo (mut_er mu)
    · rw [if_neg ha] at e
      exact s.wf.sub a u e
  · refine hv.toR sF fun a ha o e _ => ?_
    show (if a ∈ fp then H' a else F' a) = some o
    rw [if_pos ha]; exact e
/-- .. with all tuples -/
def addT (F G : Hp) : Hp := fun a => match F a with
  | some u => some u
  | none => match G a with
    | some (.tup vs) => some (.tup vs)
    | _ => none
theorem addT_left {F G : Hp} : Same F (addT F G) := fun a u e => by unfold addT; rw [e]
theorem addT_tup {F G : Hp} (s : Same F G) {a : Addr} {vs : List V} (h : G a = some (.tup vs)) : addT F G a = some (.tup vs) := by
  unfold addT
  cases q : F a with
  | none => rw [h]
  | some u => rw [s a u q] at h; cases h; rfl
theorem addT_cases {F G : Hp} {a : Addr} {u : HO} (h : addT F G a = some u) : F a = some u ∨ (G a = some u ∧ isTup u) := by
  unfold addT at h
  split at h
  · rename_i x e; left; rw [e]; exact h
  · split at h
    · rename_i e; right; cases h; exact ⟨e, trivial⟩
    · cases h
theorem Step.addT {F' H' : Hp} (s : Step B A F H F' H') : Step B A F H (addT F' (rdH B H')) H' :=
  ⟨s.same, fun a u e => addT_left a u (s.fs a u e), fun a u e => (addT_cases e).elim (s.fresh a u) fun z => .inr (.inr (.inl z.2)), ⟨fun a u e => (addT_cases e).elim (s.wf.sub a u) fun z => z.1, s.wf.lock, s.wf.bag⟩⟩
theorem Post.flat (k : Post K B A F H (.own 0) R Q) : Post K B A F H .rd (fun d => d.flat = true ∧ R d) Q := fun F' H' v d fp s hv ho hn hR =>
  k _ H' v d [] s.addT ⟨hv.1.flat (fun a vs e => addT_tup s.wf.sub e) hR.1, rfl⟩ (fun a ha => by cases ha) List.nodup_nil hR.2
end
abbrev fFlat (f : FE) : FE := fun ρ R => f ρ fun d => d.flat = true ∧ R d
section
variable {X : Cx} {e : Expr} {m : Mode} {f : FE}
theorem de_rd (h : DE X B e m f) : DE X B e .rd f := PE.imp h fun _ _ _ ⟨F, ρ, fp, R, S, hf, k⟩ => ⟨F, ρ, fp, R, S, hf, k.rd⟩
theorem de_frz {n : Nat} (h : DE X B e (.own n) f) : DE X B e (.own 0) f := PE.imp h fun _ _ _ ⟨F, ρ, fp, R, S, hf, k⟩ => ⟨F, ρ, fp, R, S, hf, k.frz⟩
theorem de_bor0 (h : DE X B e (.bor 0) f) : DE X B e (.own 0) f := PE.imp h fun _ _ _ ⟨F, ρ, fp, R, S, hf, k⟩ => ⟨F, ρ, fp, R, S, hf, k.bor0⟩
theorem de_flat (h : DE X B e m f) : DE X B e (.own 0) (fFlat f) := PE.imp (de_rd h) fun _ _ _ ⟨F, ρ, fp, R, S, hf, k⟩ => ⟨F, ρ, fp, _, S, hf, k.flat⟩
end

/-! ### names, constants -/
def slot : Env → Nat → Option (Nat × D)
  | [], _ => none
  | o :: _, 0 => o
  | _ :: r, i + 1 => slot r i
def fVar (i n : Nat) : FE := fun ρ R => match slot ρ i with
  | some (k, d) => k = n ∧ R d
  | none => False
theorem OwnE.slot {K : PySem.W.Frag} {F H : Hp} : ∀ {σ : L2.St} {ρ : Env} {fp : List Addr} {i n : Nat} {d : D}, OwnE K F H σ ρ fp → GK.slot ρ i = some (n, d) → ∃ v f, σ[i]? = some (some v) ∧ Own K F H n v d f ∧ ∀ a ∈ f, a ∈ fp
  | [], [], _, i, n, d, h, e => by cases e
  | _ :: σ, none :: ρ, fp, 0, n, d, h, e => by cases e
  | _ :: σ, none :: ρ, fp, i + 1, n, d, h, e => by
    obtain ⟨v, f, e1, e2, e3⟩ := OwnE.slot (σ := σ) (ρ := ρ) (i := i) h e
    exact ⟨v, f, e1, e2, e3⟩
  | some v :: σ, some (n, d) :: ρ, fp, 0, n', d', ⟨f1, f2, ef, h, t⟩, e => by
    cases e
    exact ⟨v, f1, rfl, h, fun a ha => by rw [ef]; exact List.mem_append_left _ ha⟩
  | some v :: σ, some (n, d) :: ρ, fp, i + 1, n', d', ⟨f1, f2, ef, h, t⟩, e => by
    obtain ⟨v, f, e1, e2, e3⟩ := OwnE.slot (σ := σ) (ρ := ρ) (i := i) t e
    exact ⟨v, f, e1, e2, fun a ha => by rw [ef]; exact List.mem_append_right _ (e3 a ha)⟩
section
variable {X : Cx} {pos : Pos} {m : Mode}
theorem de_var (i n : Nat) {x : Str} (hN : X.N[i]? = some x := by rfl) (hv : Vis X.env.scope x := by first | exact Or.inl rfl | exact Or.inr (Or.inl rfl) | exact Or.inr (Or.inr rfl)) (hd : (x == ("__debug__" : Str)) = false := by decide)
    (hcd : (x == ("__classdict__" : Str)) = false := by decide) : DE X B (.Name x pos) (.bor n) (fVar i n) :=
  PE.imp (pe_var hN hv hd hcd) fun σ H Q ⟨F, ρ, fp, R, S, hf, k⟩ => by
    unfold fVar at hf
    cases q : slot ρ i with
    | none => rw [q] at hf; exact hf.elim
    | some p =>
      obtain ⟨n', d⟩ := p
      rw [q] at hf
      obtain ⟨rfl, hR⟩ := hf
      obtain ⟨v, f, e1, e2, e3⟩ := S.own.slot q
      exact ⟨v, e1, k F H v d [] (Step.refl S.wf) ⟨⟨f, e2, fun a ha => (S.out a (e3 a ha)).2.1⟩, rfl⟩ (fun a ha => by cases ha) List.nodup_nil hR⟩
theorem de_v (i : Nat) {x : Str} (hN : X.N[i]? = some x := by rfl) (hv : Vis X.env.scope x := by first | exact Or.inl rfl | exact Or.inr (Or.inl rfl) | exact Or.inr (Or.inr rfl)) (hd : (x == ("__debug__" : Str)) = false := by decide)
    (hcd : (x == ("__classdict__" : Str)) = false := by decide) : DE X B (.Name x pos) (.own 0) (fVar i 0) := de_bor0 (de_var i 0 hN hv hd hcd)
theorem de_int {i : Int} {j} : DE X B (.Constant (.int i) j pos) m (fun _ R => R (.int i)) := PE.imp pe_int fun _ _ _ ⟨F, ρ, fp, R, S, hf, k⟩ => k.int S.wf hf
theorem de_bl {b : Bool} {j} : DE X B (.Constant (.bool b) j pos) m (fun _ R => R (.bl b)) := PE.imp pe_bl fun _ _ _ ⟨F, ρ, fp, R, S, hf, k⟩ => k.bl S.wf hf
theorem de_non {j} : DE X B (.Constant .none j pos) m (fun _ R => R .non) := PE.imp pe_non fun _ _ _ ⟨F, ρ, fp, R, S, hf, k⟩ => k.non S.wf hf
theorem de_str {x : Str} {j} : DE X B (.Constant (.str x) j pos) m (fun _ R => R (.str x)) := PE.imp pe_str fun _ _ _ ⟨F, ρ, fp, R, S, hf, k⟩ => k.str S.wf hf
end
end GK

namespace GK
open PySem PySem.Spec PyProof.Rows L2

/-! ### what a value is -/
section
variable {K : PySem.W.Frag} {B A : List Addr} {F H : Hp} {m : Mode} {fp : List Addr} {v : V}
theorem Val.atomR {d : D} (ha : atomD d = true) (h : Val K m B F H v d fp) : (∃ G, R K G v d) ∧ fp = [] := by
  cases m with
  | rd => exact ⟨⟨_, h.1⟩, h.2⟩
  | bor n =>
    obtain ⟨⟨f, h, _⟩, e⟩ := h
    refine ⟨?_, e⟩
    cases n with
    | zero => exact ⟨_, h.1⟩
    | succ n => cases d <;> first | exact ⟨_, h.1⟩ | (cases ha)
  | own n =>
    cases n with
    | zero => exact ⟨⟨_, h.1⟩, h.2⟩
    | succ n => cases d <;> first | exact ⟨⟨_, h.1⟩, h.2⟩ | (cases ha)
theorem Val.int {i : Int} (h : Val K m B F H v (.int i) fp) : v = .int i ∧ fp = [] := by
  obtain ⟨⟨G, h⟩, e⟩ := h.atomR rfl
  cases h
  exact ⟨rfl, e⟩
theorem Val.str {i : Str} (h : Val K m B F H v (.str i) fp) : v = .str i ∧ fp = [] := by
  obtain ⟨⟨G, h⟩, e⟩ := h.atomR rfl
  cases h
  exact ⟨rfl, e⟩
theorem Val.bl {i : Bool} (h : Val K m B F H v (.bl i) fp) : v = .bl i ∧ fp = [] := by
  obtain ⟨⟨G, h⟩, e⟩ := h.atomR rfl
  cases h
  exact ⟨rfl, e⟩
theorem Val.non (h : Val K m B F H v .non fp) : v = .non ∧ fp = [] := by
  obtain ⟨⟨G, h⟩, e⟩ := h.atomR rfl
  cases h
  exact ⟨rfl, e⟩
/-- the mode of what is within -/
def Mode.child : Mode → Mode
  | .rd => .rd
  | .bor 0 => .bor 0
  | .bor (n + 1) => .bor n
  | .own _ => .own 0
/-- what may be looked into -/
def Mode.look : Mode → Bool
  | .rd => true
  | .bor _ => true
  | .own 0 => true
  | .own _ => false
theorem OwnL.get {P : V → D → List Addr → Prop} : ∀ {vs : List V} {ds : List D} {f : List Addr}, OwnL P vs ds f → ∀ {i : Nat} {d : D}, ds[i]? = some d → ∃ x g, vs[i]? = some x ∧ P x d g ∧ ∀ a ∈ g, a ∈ f
  | [], [], _, _, i, d, e => by simp at e
  | v :: vs, d :: ds, fp, ⟨f1, f2, e, h, t⟩, 0, d', e' => by
    have e2 : d = d' := Option.some.inj e'
    subst e2
    exact ⟨v, f1, rfl, h, fun a ha => by rw [e]; exact List.mem_append_left _ ha⟩
  | v :: vs, d :: ds, fp, ⟨f1, f2, e, h, t⟩, i + 1, d', e' => by
    obtain ⟨x, g, h1, h2, h3⟩ := OwnL.get t (i := i) (d := d') e'
    exact ⟨x, g, h1, h2, fun a ha => by rw [e]; exact List.mem_append_right _ (h3 a ha)⟩
theorem OwnL.len {P : V → D → List Addr → Prop} : ∀ {vs : List V} {ds : List D} {f : List Addr}, OwnL P vs ds f → vs.length = ds.length
  | [], [], _, _ => rfl
  | v :: vs, d :: ds, fp, ⟨f1, f2, e, h, t⟩ => by rw [List.length_cons, List.length_cons, OwnL.len t]
/-- the items -/
def Items (K : PySem.W.Frag) (m : Mode) (B : List Addr) (F H : Hp) (vs : List V) (ds : List D) : Prop :=
  vs.length = ds.length ∧ ∀ (i : Nat) (d : D), ds[i]? = some d → ∃ x, vs[i]? = some x ∧ Val K m B F H x d []
theorem Items.of_RLrd {vs : List V} {ds : List D} (r : RL K (rdH B H) vs ds) : Items K .rd B F H vs ds := ⟨r.length, fun i d e => by
  obtain ⟨x, h1, h2⟩ := r.get e
  exact ⟨x, h1, h2, rfl⟩⟩
theorem Items.of_RL {vs : List V} {ds : List D} (r : RL K F vs ds) : Items K (.own 0) B F H vs ds := ⟨r.length, fun i d e => by
  obtain ⟨x, h1, h2⟩ := r.get e
  exact ⟨x, h1, h2, rfl⟩⟩
theorem Items.of_RLb {vs : List V} {ds : List D} (r : RL K F vs ds) : Items K (.bor 0) B F H vs ds := ⟨r.length, fun i d e => by
  obtain ⟨x, h1, h2⟩ := r.get e
  exact ⟨x, h1, ⟨[], ⟨h2, rfl⟩, fun a h => (by cases h)⟩, rfl⟩⟩
theorem Items.of_Own {n : Nat} {vs : List V} {ds : List D} {f : List Addr} (r : OwnL (Own K F H n) vs ds f) (hf : ∀ a ∈ f, a ∉ B) : Items K (.bor n) B F H vs ds := ⟨r.len, fun i d e => by
  obtain ⟨x, g, h1, h2, h3⟩ := r.get e
  exact ⟨x, h1, ⟨g, h2, fun a ha => hf a (h3 a ha)⟩, rfl⟩⟩
theorem lst_sub (w : WF B F H) {a : Addr} {vs : List V} (h : F a = some (.lst vs)) : SqL K H a vs := .inl (rd_of_rdH (w.sub _ _ h))
theorem tup_sub (w : WF B F H) {a : Addr} {vs : List V} (h : F a = some (.tup vs)) : SqT K H a vs := .inl (rd_of_rdH (w.sub _ _ h))
theorem R.lstI {G : Hp} {ds : List D} (h : R K G v (.lst ds)) : ∃ a vs, v = .ref a ∧ G a = some (.lst vs) ∧ RL K G vs ds := by
  cases h with | lst h r => exact ⟨_, _, rfl, h, r⟩
theorem R.tupI {G : Hp} {ds : List D} (h : R K G v (.tup ds)) : ∃ a vs, v = .ref a ∧ G a = some (.tup vs) ∧ RL K G vs ds := by
  cases h with | tup h r => exact ⟨_, _, rfl, h, r⟩
theorem R.dKI {G : Hp} {es : List (Key × D)} (h : R K G v (.dK es)) : ∃ a kvs, v = .ref a ∧ G a = some (.dK kvs) ∧ kvs.map (·.1) = es.map (·.1) ∧ RL K G (kvs.map (·.2)) (es.map (·.2)) := by
  cases h with | dK h hk r => exact ⟨_, _, rfl, h, hk, r⟩
theorem R.dTI {G : Hp} {es : List (List Key × D)} (h : R K G v (.dT es)) : ∃ a kvs, v = .ref a ∧ G a = some (.dT kvs) ∧ kvs.map (·.1) = es.map (·.1) ∧ RL K G (kvs.map (·.2)) (es.map (·.2)) := by
  cases h with | dT h hk r => exact ⟨_, _, rfl, h, hk, r⟩
theorem R.objI {G : Hp} {C : Addr} {es : List (Str × D)} (h : R K G v (.obj C es)) : ∃ a dx fs, v = .ref a ∧ G a = some (.ins C dx fs) ∧ fs.map (·.1) = es.map (·.1) ∧ RL K G (fs.map (·.2)) (es.map (·.2)) := by
  cases h with | obj h hk r => exact ⟨_, _, _, rfl, h, hk, r⟩
theorem Val.lst {ds : List D} (hm : m.look = true) (w : WF B F H) (h : Val K m B F H v (.lst ds) fp) : fp = [] ∧ ∃ a vs, v = .ref a ∧ SqL K H a vs ∧ Items K m.child B F H vs ds := by
  cases m with
  | rd =>
    obtain ⟨a, vs, e, h1, r⟩ := h.1.lstI
    exact ⟨h.2, a, vs, e, sqL_rd h1, .of_RLrd r⟩
  | bor n =>
    obtain ⟨⟨f, h, hf⟩, e0⟩ := h
    refine ⟨e0, ?_⟩
    cases n with
    | zero =>
      obtain ⟨a, vs, e, h1, r⟩ := h.1.lstI
      exact ⟨a, vs, e, lst_sub w h1, .of_RLb r⟩
    | succ n =>
      obtain ⟨a, vs, g, e, h1, ef, t⟩ := h
      exact ⟨a, vs, e, SqL.of h1, .of_Own t fun b hb => hf b (by rw [ef]; exact List.mem_cons_of_mem _ hb)⟩
  | own n =>
    cases n with
    | zero =>
      obtain ⟨a, vs, e, h1, r⟩ := h.1.lstI
      exact ⟨h.2, a, vs, e, lst_sub w h1, .of_RL r⟩
    | succ n => cases hm
theorem Val.tup {ds : List D} (hm : m.look = true) (w : WF B F H) (h : Val K m B F H v (.tup ds) fp) : fp = [] ∧ ∃ a vs, v = .ref a ∧ SqT K H a vs ∧ Items K m.child B F H vs ds := by
  cases m with
  | rd =>
    obtain ⟨a, vs, e, h1, r⟩ := h.1.tupI
    exact ⟨h.2, a, vs, e, sqT_rd h1, .of_RLrd r⟩
  | bor n =>
    obtain ⟨⟨f, h, hf⟩, e0⟩ := h
    refine ⟨e0, ?_⟩
    cases n with
    | zero =>
      obtain ⟨a, vs, e, h1, r⟩ := h.1.tupI
      exact ⟨a, vs, e, tup_sub w h1, .of_RLb r⟩
    | succ n =>
      obtain ⟨a, vs, e, h1, t⟩ := h
      exact ⟨a, vs, e, tup_sub w h1, .of_Own t hf⟩
  | own n =>
    cases n with
    | zero =>
      obtain ⟨a, vs, e, h1, r⟩ := h.1.tupI
      exact ⟨h.2, a, vs, e, tup_sub w h1, .of_RL r⟩
    | succ n => cases hm
theorem Val.dK {es : List (Key × D)} (hm : m.look = true) (w : WF B F H) (h : Val K m B F H v (.dK es) fp) : fp = [] ∧ ∃ a kvs, v = .ref a ∧ Rd H a (.dK kvs) ∧ kvs.map (·.1) = es.map (·.1) ∧ Items K m.child B F H (kvs.map (·.2)) (es.map (·.2)) := by
  cases m with
  | rd =>
    obtain ⟨a, vs, e, h1, hk, r⟩ := h.1.dKI
    exact ⟨h.2, a, vs, e, rd_of_rdH h1, hk, .of_RLrd r⟩
  | bor n =>
    obtain ⟨⟨f, h, hf⟩, e0⟩ := h
    refine ⟨e0, ?_⟩
    cases n with
    | zero =>
      obtain ⟨a, vs, e, h1, hk, r⟩ := h.1.dKI
      exact ⟨a, vs, e, rd_of_rdH (w.sub _ _ h1), hk, .of_RLb r⟩
    | succ n =>
      obtain ⟨a, vs, g, e, h1, ef, hk, t⟩ := h
      exact ⟨a, vs, e, .inl h1, hk, .of_Own t fun b hb => hf b (by rw [ef]; exact List.mem_cons_of_mem _ hb)⟩
  | own n =>
    cases n with
    | zero =>
      obtain ⟨a, vs, e, h1, hk, r⟩ := h.1.dKI
      exact ⟨h.2, a, vs, e, rd_of_rdH (w.sub _ _ h1), hk, .of_RL r⟩
    | succ n => cases hm
theorem Val.dT {es : List (List Key × D)} (hm : m.look = true) (w : WF B F H) (h : Val K m B F H v (.dT es) fp) : fp = [] ∧ ∃ a kvs, v = .ref a ∧ Rd H a (.dT kvs) ∧ kvs.map (·.1) = es.map (·.1) ∧ Items K m.child B F H (kvs.map (·.2)) (es.map (·.2)) := by
  cases m with
  | rd =>
    obtain ⟨a, vs, e, h1, hk, r⟩ := h.1.dTI
    exact ⟨h.2, a, vs, e, rd_of_rdH h1, hk, .of_RLrd r⟩
  | bor n =>
    obtain ⟨⟨f, h, hf⟩, e0⟩ := h
    refine ⟨e0, ?_⟩
    cases n with
    | zero =>
      obtain ⟨a, vs, e, h1, hk, r⟩ := h.1.dTI
      exact ⟨a, vs, e, rd_of_rdH (w.sub _ _ h1), hk, .of_RLb r⟩
    | succ n =>
      obtain ⟨a, vs, g, e, h1, ef, hk, t⟩ := h
      exact ⟨a, vs, e, .inl h1, hk, .of_Own t fun b hb => hf b (by rw [ef]; exact List.mem_cons_of_mem _ hb)⟩
  | own n =>
    cases n with
    | zero =>
      obtain ⟨a, vs, e, h1, hk, r⟩ := h.1.dTI
      exact ⟨h.2, a, vs, e, rd_of_rdH (w.sub _ _ h1), hk, .of_RL r⟩
    | succ n => cases hm
/-- an instance is never locked -/
theorem ins_of (w : WF B F H) {a C dx : Addr} {fs : List (Str × V)} (h : rdH B H a = some (.ins C dx fs)) : H a = some (.ins C dx fs) := by
  obtain ⟨hb, x, e, n⟩ := rdH_some h
  cases x <;> first | (rw [e]; exact congrArg some n) | skip
  rename_i o u
  have := w.lock a o u hb e
  have n' : u = .ins C dx fs := n
  rw [n'] at this
  exact this.elim
theorem tup_of (w : WF B F H) {a : Addr} {vs : List V} (h : rdH B H a = some (.tup vs)) : H a = some (.tup vs) := by
  obtain ⟨hb, x, e, n⟩ := rdH_some h
  cases x <;> first | (rw [e]; exact congrArg some n) | skip
  rename_i o u
  have := w.lock a o u hb e
  have n' : u = .tup vs := n
  rw [n'] at this
  exact this.elim
theorem lst_of (w : WF B F H) {a : Addr} {vs : List V} (h : rdH B H a = some (.lst vs)) : H a = some (.lst vs) := by
  obtain ⟨hb, x, e, n⟩ := rdH_some h
  cases x <;> first | (rw [e]; exact congrArg some n) | skip
  rename_i o u
  have := w.lock a o u hb e
  have n' : u = .lst vs := n
  rw [n'] at this
  exact this.elim
theorem Val.obj {C : Addr} {es : List (Str × D)} (hm : m.look = true) (w : WF B F H) (h : Val K m B F H v (.obj C es) fp) : fp = [] ∧ ∃ a dx fs, v = .ref a ∧ H a = some (.ins C dx fs) ∧ fs.map (·.1) = es.map (·.1) ∧ Items K m.child B F H (fs.map (·.2)) (es.map (·.2)) := by
  cases m with
  | rd =>
    obtain ⟨a, dx, vs, e, h1, hk, r⟩ := h.1.objI
    exact ⟨h.2, a, dx, vs, e, ins_of w h1, hk, .of_RLrd r⟩
  | bor n =>
    obtain ⟨⟨f, h, hf⟩, e0⟩ := h
    refine ⟨e0, ?_⟩
    cases n with
    | zero =>
      obtain ⟨a, dx, vs, e, h1, hk, r⟩ := h.1.objI
      exact ⟨a, dx, vs, e, ins_of w (w.sub _ _ h1), hk, .of_RLb r⟩
    | succ n =>
      obtain ⟨a, dx, vs, g, e, h1, ef, hk, t⟩ := h
      exact ⟨a, dx, vs, e, h1, hk, .of_Own t fun b hb => hf b (by rw [ef]; exact List.mem_cons_of_mem _ hb)⟩
  | own n =>
    cases n with
    | zero =>
      obtain ⟨a, dx, vs, e, h1, hk, r⟩ := h.1.objI
      exact ⟨h.2, a, dx, vs, e, ins_of w (w.sub _ _ h1), hk, .of_RL r⟩
    | succ n => cases hm
/-- something of a mode comes that owns nothing new -/
theorem Post.val {R : D → Prop} {Q : VK} {d : D} (k : Post K B A F H m R Q) (w : WF B F H) (h : Val K m B F H v d []) (q : R d) : Q v H :=
  k F H v d [] (Step.refl w) h (fun a h => (by cases h)) List.nodup_nil q
end

/-! ### ints -/
def g2I (c : Int → Int → Prop) (h : Int → Int → D) : D → D → (D → Prop) → Prop
  | .int i, .int j, R => c i j ∧ R (h i j)
  | _, _, _ => False
def g2I0 (h : Int → Int → D) : D → D → (D → Prop) → Prop
  | .int i, .int j, R => R (h i j)
  | _, _, _ => False
def g1I (h : Int → D) : D → (D → Prop) → Prop
  | .int i, R => R (h i)
  | _, _ => False
section
variable {K : PySem.W.Frag} {m m1 m2 : Mode}
theorem op2I {c : Int → Int → Prop} {h : Int → Int → Int} : Op2 K (rI c fun i j => .int (h i j)) m1 m2 m (g2I c fun i j => .int (h i j)) := by
  intro B F H x y d e fp R Q w ⟨f1, f2, ef, h1, h2⟩ _ hg k
  cases d <;> try exact hg.elim
  cases e <;> try exact hg.elim
  obtain ⟨rfl, rfl⟩ := h1.int
  obtain ⟨rfl, rfl⟩ := h2.int
  exact ⟨_, _, rfl, rfl, hg.1, k.int w hg.2⟩
theorem op2I0 {h : Int → Int → Int} : Op2 K (rI0 fun i j => .int (h i j)) m1 m2 m (g2I0 fun i j => .int (h i j)) := by
  intro B F H x y d e fp R Q w ⟨f1, f2, ef, h1, h2⟩ _ hg k
  cases d <;> try exact hg.elim
  cases e <;> try exact hg.elim
  obtain ⟨rfl, rfl⟩ := h1.int
  obtain ⟨rfl, rfl⟩ := h2.int
  exact ⟨_, _, rfl, rfl, k.int w hg⟩
theorem op2B0 {h : Int → Int → Bool} : Op2 K (rI0 fun i j => .bl (h i j)) m1 m2 m (g2I0 fun i j => .bl (h i j)) := by
  intro B F H x y d e fp R Q w ⟨f1, f2, ef, h1, h2⟩ _ hg k
  cases d <;> try exact hg.elim
  cases e <;> try exact hg.elim
  obtain ⟨rfl, rfl⟩ := h1.int
  obtain ⟨rfl, rfl⟩ := h2.int
  exact ⟨_, _, rfl, rfl, k.bl w hg⟩
theorem op1I {h : Int → Int} : Op1 K (rU fun i => .int (h i)) m1 m (g1I fun i => .int (h i)) := by
  intro B F H x d fp R Q w h1 _ hg k
  cases d <;> try exact hg.elim
  obtain ⟨rfl, rfl⟩ := h1.int
  exact ⟨_, rfl, k.int w hg⟩
end
section
variable {X : Cx} {a b : Expr} {pos : Pos} {m m1 m2 : Mode} {f f' : FE}
abbrev gAddI := g2I0 fun i j => D.int (i + j)
abbrev gSubI := g2I0 fun i j => D.int (i - j)
abbrev gMulI := g2I CMul fun i j => D.int (i * j)
abbrev gDivI := g2I CDiv fun i j => D.int (i / j)
abbrev gModI := g2I (fun _ j => 0 < j) fun i j => D.int (i % j)
abbrev gNegI := g1I fun i => D.int (-i)
abbrev gLt := g2I0 fun i j => D.bl (decide (i < j))
abbrev gLe := g2I0 fun i j => D.bl (decide (i ≤ j))
abbrev gGt := g2I0 fun i j => D.bl (decide (j < i))
abbrev gGe := g2I0 fun i j => D.bl (decide (j ≤ i))
theorem de_add (ha : DE X B a m1 f) (hb : DE X B b m2 f') : DE X B (.BinOp a .Add b pos) m (fBin gAddI f f') := de_op op_add op2I0 ha hb
theorem de_sub (ha : DE X B a m1 f) (hb : DE X B b m2 f') : DE X B (.BinOp a .Sub b pos) m (fBin gSubI f f') := de_op op_sub op2I0 ha hb
theorem de_mul (ha : DE X B a m1 f) (hb : DE X B b m2 f') : DE X B (.BinOp a .Mult b pos) m (fBin gMulI f f') := de_op op_mul op2I ha hb
theorem de_div (ha : DE X B a m1 f) (hb : DE X B b m2 f') : DE X B (.BinOp a .FloorDiv b pos) m (fBin gDivI f f') := de_op op_fdiv op2I ha hb
theorem de_mod (ha : DE X B a m1 f) (hb : DE X B b m2 f') : DE X B (.BinOp a .Mod b pos) m (fBin gModI f f') := de_op op_mod op2I ha hb
theorem de_neg (ha : DE X B a m1 f) : DE X B (.UnaryOp .USub a pos) m (fUn gNegI f) := de_un un_neg op1I ha
theorem de_lt (ha : DE X B a m1 f) (hb : DE X B b m2 f') : DE X B (.Compare a [.Lt] [b] pos) m (fBin gLt f f') := de_cmp op_lt op2B0 ha hb (nomark _)
theorem de_le (ha : DE X B a m1 f) (hb : DE X B b m2 f') : DE X B (.Compare a [.LtE] [b] pos) m (fBin gLe f f') := de_cmp op_le op2B0 ha hb (nomark _)
theorem de_gt (ha : DE X B a m1 f) (hb : DE X B b m2 f') : DE X B (.Compare a [.Gt] [b] pos) m (fBin gGt f f') := de_cmp op_gt op2B0 ha hb (nomark _)
theorem de_ge (ha : DE X B a m1 f) (hb : DE X B b m2 f') : DE X B (.Compare a [.GtE] [b] pos) m (fBin gGe f f') := de_cmp op_ge op2B0 ha hb (nomark _)
end
end GK

namespace GK
open PySem PySem.Spec PyProof.Rows L2

/-! ### new objects -/
section
variable {K : PySem.W.Frag} {B A : List Addr} {F H H' : Hp} {p : Addr} {o : HO}
theorem BagOk.keep (b : BagOk B H) (s : ∀ a ∈ B, ∀ o, H a = some o → H' a = some o) : BagOk B H' := by
  rcases b with e | ⟨b, c, l, ts, cells, left, turn, e, h0, h1, h2, h3, r⟩
  · exact .inl e
  · refine .inr ⟨b, c, l, ts, cells, left, turn, e, fun t ht => ?_, s b ?_ _ h1, s c ?_ _ h2, s l ?_ _ h3, r⟩
    · obtain ⟨o, xs, q⟩ := h0 t ht
      exact ⟨o, xs, s t (by rw [e]; simp [ht]) _ q⟩
    all_goals (rw [e]; simp)
theorem BagOk.there (b : BagOk B H) {a : Addr} (h : a ∈ B) : ∃ o, H a = some o ∧ ¬ isTup o := by
  rcases b with e | ⟨b, c, l, ts, cells, left, turn, e, h0, h1, h2, h3, r⟩
  · rw [e] at h; cases h
  · rw [e] at h
    simp only [List.mem_cons] at h
    rcases h with rfl | rfl | rfl | h
    · exact ⟨_, h1, fun z => z⟩
    · exact ⟨_, h2, fun z => z⟩
    · exact ⟨_, h3, fun z => z⟩
    · obtain ⟨o, xs, q⟩ := h0 a h
      exact ⟨_, q, fun z => z⟩
theorem WF.notB (w : WF B F H) (hp : H p = none) : p ∉ B := fun h => by
  obtain ⟨o, e, _⟩ := w.bag.there h
  rw [hp] at e; cases e
theorem same_upd (hp : H p = none) : ∀ a u, H a = some u → upd H p o a = some u := fun a u e => by rw [upd_ne (ne_of_none e hp)]; exact e
theorem F_none (w : WF B F H) (hp : H p = none) : F p = none := by
  cases q : F p with
  | none => rfl
  | some u =>
    obtain ⟨_, x, e, _⟩ := rdH_some (w.sub p u q)
    rw [hp] at e; cases e
theorem WF.laid (w : WF B F H) (hp : H p = none) (ho : erO o = o) : WF B F (upd H p o) :=
  ⟨fun a u e => rdH_same (fun a u _ h => same_upd hp a u h) a u (w.sub a u e), fun a ob u hb e => by
    by_cases h : a = p
    · subst h
      rw [upd_same] at e
      have e' : o = .frz ob u := Option.some.inj e
      rw [e'] at ho
      have z : u = .frz ob u := ho
      have : sizeOf u = sizeOf (HO.frz ob u) := congrArg sizeOf z
      simp at this
    · rw [upd_ne h] at e; exact w.lock a ob u hb e, w.bag.keep fun a _ u h => same_upd hp a u h⟩
theorem WF.laidF (w : WF B F H) (hp : H p = none) (ho : erO o = o) : WF B (upd F p o) (upd H p o) :=
  ⟨fun a u e => by
    by_cases h : a = p
    · subst h
      rw [upd_same] at e
      cases e
      exact rdH_of (w.notB hp) upd_same ho
    · rw [upd_ne h] at e
      exact (w.laid hp ho).sub a u e, (w.laid hp ho).lock, (w.laid hp ho).bag⟩
theorem Step.laid (w : WF B F H) (hp : H p = none) (ho : erO o = o) : Step B A F H F (upd H p o) :=
  ⟨fun a u _ h => same_upd hp a u h, fun _ _ h => h, fun _ _ h => .inl h, w.laid hp ho⟩
theorem Step.laidF (w : WF B F H) (hp : H p = none) (ho : erO o = o) : Step B A F H (upd F p o) (upd H p o) :=
  ⟨fun a u _ h => same_upd hp a u h, fun a u h => by rw [upd_ne (ne_of_none h (F_none w hp))]; exact h, fun a u h => by
    by_cases e : a = p
    · subst e; exact .inr (.inl hp)
    · rw [upd_ne e] at h; exact .inl h, w.laidF hp ho⟩
theorem erO_of_isTup {vs : List V} : erO (.tup vs) = .tup vs := rfl
theorem OwnL.zero {vs : List V} {ds : List D} (r : RL K F vs ds) : OwnL (Own K F H 0) vs ds [] := by
  cases r with
  | nil => rfl
  | cons h t => exact ⟨[], [], rfl, ⟨h, rfl⟩, OwnL.zero t⟩
termination_by ds.length
variable {R : D → Prop} {Q : VK} {n : Nat} {vs : List V} {ds : List D} {f : List Addr}
/-- a new list of what is owned -/
theorem Post.newLst (k : Post K B A F H (.own (n + 1)) R Q) (w : WF B F H) (hf : Fp B F f) (hA : ∀ a ∈ f, a ∈ A) (h : OwnL (Own K F H n) vs ds f) (q : R (.lst ds)) (hp : H p = none) : Q (.ref p) (upd H p (.lst vs)) := by
  have hf1 : ∀ a ∈ f, ∃ o, H a = some o ∧ Mut (some o) := h.there fun v d f q => Own.there q
  refine k F _ _ (.lst ds) (p :: f) (Step.laid w hp rfl) ⟨p, vs, f, rfl, upd_same, rfl, h.imp fun v d g hg => Own.mono (fun _ _ h => h) fun a _ o e => same_upd hp a o e⟩ (fun a ha => ?_) ?_ q
  · rcases List.mem_cons.mp ha with z | z
    · rw [z]; exact ⟨.inr hp, F_none w hp, w.notB hp⟩
    · exact ⟨.inl (hA a z), hf.1 a z⟩
  · refine List.nodup_cons.mpr ⟨fun z => ?_, hf.2⟩
    obtain ⟨o, e, _⟩ := hf1 p z
    rw [hp] at e; cases e
theorem Post.newLst0 (k : Post K B A F H (.own 1) R Q) (w : WF B F H) (h : RL K F vs ds) (q : R (.lst ds)) (hp : H p = none) : Q (.ref p) (upd H p (.lst vs)) :=
  k.newLst (f := []) w ⟨fun a h => (by cases h), List.nodup_nil⟩ (fun a h => (by cases h)) (OwnL.zero h) q hp
theorem Post.newTup (k : Post K B A F H (.own 0) R Q) (w : WF B F H) (h : RL K F vs ds) (q : R (.tup ds)) (hp : H p = none) : Q (.ref p) (upd H p (.tup vs)) := by
  have s := Step.laidF (A := A) w hp (o := .tup vs) rfl
  exact k _ _ _ (.tup ds) [] s ⟨.tup upd_same (h.mono s.fs), rfl⟩ (fun a h => (by cases h)) List.nodup_nil q
/-- a new tuple of what is owned -/
theorem Post.newTupN (k : Post K B A F H (.own (n + 1)) R Q) (w : WF B F H) (hf : Fp B F f) (hA : ∀ a ∈ f, a ∈ A) (h : OwnL (Own K F H n) vs ds f) (q : R (.tup ds)) (hp : H p = none) : Q (.ref p) (upd H p (.tup vs)) := by
  have hf1 : ∀ a ∈ f, ∃ o, H a = some o ∧ Mut (some o) := h.there fun v d f q => Own.there q
  have s := Step.laidF (A := A) w hp (o := .tup vs) rfl
  refine k _ _ _ (.tup ds) f s ⟨p, vs, rfl, upd_same, h.imp fun v d g hg => Own.mono s.fs fun a _ o e => same_upd hp a o e⟩ (fun a ha => ⟨.inl (hA a ha), ?_, (hf.1 a ha).2⟩) hf.2 q
  obtain ⟨o, e, _⟩ := hf1 a ha
  rw [upd_ne (ne_of_none e hp)]
  exact (hf.1 a ha).1
end

/-! ### argument lists, displays -/
section
variable {X : Cx} {e : Expr} {es : List Expr} {m : Mode} {ms : List Mode} {f : FE} {fs : FA} {pos : Pos}
theorem ValL.step {K : PySem.W.Frag} {B A : List Addr} {F H F' H' : Hp} (s : Step B A F H F' H') : ∀ {ms : List Mode} {vs : List V} {ds : List D} {fp : List Addr}, ValL K B F H ms vs ds fp → (∀ a ∈ fp, a ∉ B) → ValL K B F' H' ms vs ds fp
  | [], [], [], _, h, _ => h
  | m :: ms, v :: vs, d :: ds, fp, ⟨f1, f2, e, h, t⟩, hB => ⟨f1, f2, e, h.step s fun a ha => hB a (by rw [e]; exact List.mem_append_left _ ha), ValL.step s t fun a ha => hB a (by rw [e]; exact List.mem_append_right _ ha)⟩
theorem ValL.there {K : PySem.W.Frag} {B : List Addr} {F H : Hp} : ∀ {ms : List Mode} {vs : List V} {ds : List D} {fp : List Addr}, ValL K B F H ms vs ds fp → ∀ a ∈ fp, ∃ o, H a = some o ∧ Mut (some o)
  | [], [], [], _, h, a, ha => by rw [show _ = _ from h] at ha; cases ha
  | m :: ms, v :: vs, d :: ds, fp, ⟨f1, f2, e, h, t⟩, a, ha => by
    rw [e] at ha
    rcases List.mem_append.mp ha with z | z
    · exact h.there a z
    · exact t.there a z
theorem da_nil : DA X B [] [] fNil := PA.imp pa_nil fun σ H Q ⟨F, ρ, fp, R, S, hf, k⟩ => k F H [] [] [] (Step.refl S.wf) rfl (fun a h => (by cases h)) List.nodup_nil hf
theorem da_cons (h : DE X B e m f) (hr : DA X B es ms fs) (hs : starEach (e :: es) X.env = (false, eval e X.env) :: starEach es X.env := by rfl) : DA X B (e :: es) (m :: ms) (fCons f fs) :=
  PA.imp (pa_cons h hr hs) fun σ H Q ⟨F, ρ, fp, R, S, hf, k⟩ => by
    refine ⟨F, ρ, fp, _, S, hf, fun F1 H1 v1 d1 fp1 s1 hv1 o1 n1 hg1 => ?_⟩
    refine ⟨F1, ρ, fp, _, S.step s1 (fun a ha => by cases ha), hg1, fun F2 H2 v2 d2 fp2 s2 hv2 o2 n2 hg2 => ?_⟩
    have t1 := hv1.there
    have nn : ∀ a ∈ fp1, F2 a = none := fun a ha => by
      obtain ⟨o, e, mu⟩ := t1 a ha
      exact s2.out e mu (o1 a ha).2.2 (o1 a ha).2.1 fun z => by cases z
    refine k F2 H2 (v1 :: v2) (d1 :: d2) (fp1 ++ fp2) (s1.trans s2 fun a ha => by cases ha) ⟨fp1, fp2, rfl, hv1.step s2 fun a ha => (o1 a ha).2.2, hv2⟩ (fun a ha => ?_) ?_ hg2
    · rcases List.mem_append.mp ha with z | z
      · exact ⟨(o1 a z).1, nn a z, (o1 a z).2.2⟩
      · exact ⟨.inr (s1.new (o2 a z).2.2 ((o2 a z).1.elim (fun z => by cases z) id)), (o2 a z).2⟩
    · refine List.nodup_append.mpr ⟨n1, n2, fun a ha b hb e => ?_⟩
      subst e
      obtain ⟨o, e, mu⟩ := t1 a ha
      rcases (o2 a hb).1 with z | z
      · cases z
      · rw [e] at z; cases z
theorem ValL.own {K : PySem.W.Frag} {B : List Addr} {F H : Hp} {n : Nat} : ∀ {ms : List Mode} {vs : List V} {ds : List D} {fp : List Addr}, (∀ m ∈ ms, m = .own n) → ValL K B F H ms vs ds fp → OwnL (Own K F H n) vs ds fp
  | [], [], [], _, _, h => h
  | m :: ms, v :: vs, d :: ds, fp, hm, ⟨f1, f2, e, h, t⟩ => by
    have em := hm m List.mem_cons_self
    subst em
    exact ⟨f1, f2, e, h, ValL.own (fun m h => hm m (List.mem_cons_of_mem _ h)) t⟩
theorem ValL.len {K : PySem.W.Frag} {B : List Addr} {F H : Hp} : ∀ {ms : List Mode} {vs : List V} {ds : List D} {fp : List Addr}, ValL K B F H ms vs ds fp → vs.length = ds.length
  | [], [], [], _, h => rfl
  | m :: ms, v :: vs, d :: ds, fp, ⟨f1, f2, e, h, t⟩ => by rw [List.length_cons, List.length_cons, t.len]
theorem OwnL.toRL0 {K : PySem.W.Frag} {F H : Hp} : ∀ {vs : List V} {ds : List D} {fp : List Addr}, OwnL (Own K F H 0) vs ds fp → RL K F vs ds
  | [], [], _, h => .nil
  | v :: vs, d :: ds, fp, ⟨f1, f2, e, h, t⟩ => .cons h.1 (OwnL.toRL0 t)
def gTup (xs : List D) (R : D → Prop) : Prop := xs.length ≤ sizeLine ∧ R (.tup xs)
def gLst (xs : List D) (R : D → Prop) : Prop := xs.length ≤ sizeLine ∧ R (.lst xs)
/-- (a, b, ..) -/
theorem de_tup {k : Nat} (h : DA X B es ms fs) (hm : ∀ m ∈ ms, m = .own 0 := by simp) : DE X B (.Tuple es k pos) (.own 0) (fArgs gTup fs) := PE.imp (pe_tup h) fun σ H Q ⟨F, ρ, fp, R, S, hf, k⟩ => by
  refine ⟨F, ρ, fp, _, S, hf, fun F1 H1 vs ds fp1 s1 hv o1 n1 hg => ⟨by rw [hv.len]; exact hg.1, fun p hp => ?_⟩⟩
  exact (k.after s1 (A1 := fp1) fun a ha => (o1 a ha).1).newTup s1.wf (hv.own hm).toRL0 hg.2 hp
theorem de_tupN (n : Nat) {k : Nat} (h : DA X B es ms fs) (hm : ∀ m ∈ ms, m = .own n := by simp) : DE X B (.Tuple es k pos) (.own (n + 1)) (fArgs gTup fs) := PE.imp (pe_tup h) fun σ H Q ⟨F, ρ, fp, R, S, hf, k⟩ => by
  refine ⟨F, ρ, fp, _, S, hf, fun F1 H1 vs ds fp1 s1 hv o1 n1 hg => ⟨by rw [hv.len]; exact hg.1, fun p hp => ?_⟩⟩
  exact (k.after s1 (A1 := fp1) fun a ha => (o1 a ha).1).newTupN s1.wf ⟨fun a ha => (o1 a ha).2, n1⟩ (fun _ h => h) (hv.own hm) hg.2 hp
/-- [a, b, ..] -/
theorem de_lst (n : Nat) (h : DA X B es ms fs) (hm : ∀ m ∈ ms, m = .own n := by simp) : DE X B (.List es pos) (.own (n + 1)) (fArgs gLst fs) := PE.imp (pe_lst h) fun σ H Q ⟨F, ρ, fp, R, S, hf, k⟩ => by
  refine ⟨F, ρ, fp, _, S, hf, fun F1 H1 vs ds fp1 s1 hv o1 n1 hg => ⟨by rw [hv.len]; exact hg.1, fun p hp => ?_⟩⟩
  exact (k.after s1 (A1 := fp1) fun a ha => (o1 a ha).1).newLst s1.wf ⟨fun a ha => (o1 a ha).2, n1⟩ (fun _ h => h) (hv.own hm) hg.2 hp
end
end GK

namespace GK
open PySem PySem.Spec PyProof.Rows L2

/-! ### statements over data -/
structure DEnds where
  nx : Env → Prop
  rt : D → Env → Prop
  bk : Env → Prop := fun _ => False
  ct : Env → Prop := fun _ => False
abbrev FS := DEnds → Env → Prop
abbrev FM := Env → (D → Env → Prop) → Prop
/-- the addresses of a value, apart from all else -/
def Apart (B : List Addr) (Z0 F : Hp) (fp f : List Addr) : Prop := (∀ a ∈ f, F a = none ∧ a ∉ B ∧ Z0 a = none ∧ a ∉ fp) ∧ f.Nodup
structure Links (K : PySem.W.Frag) (B : List Addr) (Pn : List V) (Z0 F0 : Hp) (mr : Mode) (E : DEnds) (Dn : Ends) : Prop where
  nx : ∀ F H σ ρ fp, StOk K B Pn Z0 F0 F H σ ρ fp → E.nx ρ → Dn.nx σ H
  rt : ∀ F H σ ρ fp v d f, StOk K B Pn Z0 F0 F H σ ρ fp → Val K mr B F H v d f → Apart B Z0 F fp f → E.rt d ρ → Dn.rt v H
  bk : ∀ F H σ ρ fp, StOk K B Pn Z0 F0 F H σ ρ fp → E.bk ρ → Dn.bk σ H
  ct : ∀ F H σ ρ fp, StOk K B Pn Z0 F0 F H σ ρ fp → E.ct ρ → Dn.ct σ H
def tDS (K : PySem.W.Frag) (B : List Addr) (pin : Nat) (mr : Mode) (g : FS) : TS := fun Dn σ H =>
  ∃ Pn Z0 F0 F ρ fp E, Pn.length = pin ∧ StOk K B Pn Z0 F0 F H σ ρ fp ∧ g E ρ ∧ Links K B Pn Z0 F0 mr E Dn
/-- an expression that may change what the names own -/
def tDM (K : PySem.W.Frag) (B : List Addr) (pin : Nat) (m : Mode) (f : FM) : TE := fun σ H Q =>
  ∃ Pn Z0 F0 F ρ fp R, Pn.length = pin ∧ StOk K B Pn Z0 F0 F H σ ρ fp ∧ f ρ R ∧
    ∀ F' H' ρ' fp' v d f', StOk K B Pn Z0 F0 F' H' σ ρ' fp' → Val K m B F' H' v d f' → Apart B Z0 F' fp' f' → R d ρ' → Q v H'
abbrev DS (X : Cx) (B : List Addr) (st : Stmt) (pin : Nat) (mr : Mode) (g : FS) : Prop := PS X st (tDS X.K B pin mr g)
abbrev DSs (X : Cx) (B : List Addr) (st : List Stmt) (pin : Nat) (mr : Mode) (g : FS) : Prop := PSs X st (tDS X.K B pin mr g)
abbrev DM (X : Cx) (B : List Addr) (e : Expr) (pin : Nat) (m : Mode) (f : FM) : Prop := PE X e (tDM X.K B pin m f)
abbrev mOf (f : FE) : FM := fun ρ R => f ρ fun d => R d ρ

section
variable {K : PySem.W.Frag} {B A fp : List Addr} {Pn : List V} {Z0 F0 F F' H H' : Hp} {σ : L2.St} {ρ : Env} {m : Mode} {n : Nat}
theorem tDM_of {pin : Nat} {f : FE} {Q : VK} (h : tDM K B pin m (mOf f) σ H Q) : tD K B m f σ H Q := by
  obtain ⟨Pn, Z0, F0, F, ρ, fp, R, _, S, hf, k⟩ := h
  refine ⟨F, ρ, fp, _, S.base, hf, fun F' H' v d f' s hv ho hn hR => k F' H' ρ fp v d f' (S.step s fun a h => (by cases h)) hv ⟨fun a ha => ?_, hn⟩ hR⟩
  obtain ⟨h1, h2, h3⟩ := ho a ha
  have hz : H a = none := h1.elim (fun h => by cases h) id
  refine ⟨h2, h3, ?_, fun hm => ?_⟩
  · cases q : Z0 a with
    | none => rfl
    | some o => rw [S.z a o q] at hz; cases hz
  · obtain ⟨o, e, _⟩ := S.own.there a hm
    rw [hz] at e; cases e
theorem dm_of {X : Cx} {e : Expr} {pin : Nat} {f : FE} (h : DE X B e m f) : DM X B e pin m (mOf f) := PE.imp h fun _ _ _ q => tDM_of q
theorem nd_comm {α : Type} {a b : List α} (h : (a ++ b).Nodup) : (b ++ a).Nodup := by
  obtain ⟨h1, h2, h3⟩ := List.nodup_append.mp h
  exact List.nodup_append.mpr ⟨h2, h1, fun x hx y hy e => h3 y hy x hx e.symm⟩
theorem OwnE.set {v : V} {d : D} {f : List Addr} (h : Own K F H n v d f) : ∀ {σ : L2.St} {ρ : Env} {fp : List Addr} {i : Nat}, OwnE K F H σ ρ fp → (fp ++ f).Nodup → i < ρ.length →
    ∃ fp', OwnE K F H (σ.set i (some v)) (ρ.set i (some (n, d))) fp' ∧ fp'.Nodup ∧ ∀ a ∈ fp', a ∈ fp ∨ a ∈ f
  | [], [], fp, i, _, _, hi => by simp at hi
  | x :: σ, none :: ρ, fp, 0, ho, nd, _ => ⟨f ++ fp, ⟨f, fp, rfl, h, ho⟩, nd_comm nd, fun a ha => (List.mem_append.mp ha).symm⟩
  | x :: σ, none :: ρ, fp, i + 1, ho, nd, hi => OwnE.set (σ := σ) (ρ := ρ) h ho nd (by simpa using hi)
  | some w :: σ, some (k, e) :: ρ, fp, 0, ⟨f1, f2, ef, h1, t⟩, nd, _ => by
    subst ef
    refine ⟨f ++ f2, ⟨f, f2, rfl, h, t⟩, ?_, fun a ha => ?_⟩
    · rw [List.append_assoc] at nd
      exact nd_comm (List.nodup_append.mp nd).2.1
    · rcases List.mem_append.mp ha with z | z
      · exact .inr z
      · exact .inl (List.mem_append_right _ z)
  | some w :: σ, some (k, e) :: ρ, fp, i + 1, ⟨f1, f2, ef, h1, t⟩, nd, hi => by
    subst ef
    rw [List.append_assoc] at nd
    obtain ⟨n1, n2, n3⟩ := List.nodup_append.mp nd
    obtain ⟨fp', o', nd', sub⟩ := OwnE.set (σ := σ) (ρ := ρ) (i := i) h t n2 (by simpa using hi)
    refine ⟨f1 ++ fp', ⟨f1, fp', rfl, h1, o'⟩, List.nodup_append.mpr ⟨n1, nd', fun a ha b hb e => ?_⟩, fun a ha => ?_⟩
    · subst e
      rcases sub a hb with z | z
      · exact n3 a ha a (List.mem_append_left _ z) rfl
      · exact n3 a ha a (List.mem_append_right _ z) rfl
    · rcases List.mem_append.mp ha with z | z
      · exact .inl (List.mem_append_left _ z)
      · rcases sub a z with z | z
        · exact .inl (List.mem_append_right _ z)
        · exact .inr z
  | _ :: _, [], _, _, h, _, _ => by cases h
  | [], _ :: _, _, _, h, _, _ => by cases h
  | none :: _, some _ :: _, _, _, h, _, _ => by cases h
/-- a name is stored -/
theorem StOk.set {v : V} {d : D} {f : List Addr} {i : Nat} (S : StOk K B Pn Z0 F0 F H σ ρ fp) (h : Own K F H n v d f) (ap : Apart B Z0 F fp f) (hi : i < ρ.length) (hp : Pn.length ≤ i) :
    ∃ fp', StOk K B Pn Z0 F0 F H (σ.set i (some v)) (ρ.set i (some (n, d))) fp' := by
  have nd : (fp ++ f).Nodup := List.nodup_append.mpr ⟨S.nd, ap.2, fun a ha b hb e => by
    subst e
    exact (ap.1 a hb).2.2.2 ha⟩
  obtain ⟨fp', o', nd', sub⟩ := OwnE.set h S.own nd hi
  refine ⟨fp', S.wf, o', nd', fun a ha => ?_, S.z, S.zB, S.f, S.fr, fun j w e => ?_⟩
  · rcases sub a ha with z | z
    · exact S.out a z
    · obtain ⟨h1, h2, h3, _⟩ := ap.1 a z
      exact ⟨h1, h2, h3⟩
  · have hj : j < Pn.length := (List.getElem?_eq_some_iff.mp e).1
    rw [List.getElem?_set_ne (by omega)]
    exact S.pn j w e
/-- a name's value is taken away -/
theorem OwnE.take {d : D} : ∀ {σ : L2.St} {ρ : Env} {fp : List Addr} {i : Nat}, OwnE K F H σ ρ fp → fp.Nodup → GK.slot ρ i = some (n, d) →
    ∃ v f fp', σ[i]? = some (some v) ∧ Own K F H n v d f ∧ OwnE K F H σ (ρ.set i none) fp' ∧ (fp' ++ f).Nodup ∧ ∀ a ∈ fp' ++ f, a ∈ fp
  | [], [], fp, i, _, _, e => by cases e
  | x :: σ, none :: ρ, fp, 0, ho, nd, e => by cases e
  | x :: σ, none :: ρ, fp, i + 1, ho, nd, e => OwnE.take (σ := σ) (ρ := ρ) (i := i) ho nd e
  | some w :: σ, some (k, e) :: ρ, fp, 0, ⟨f1, f2, ef, h1, t⟩, nd, q => by
    subst ef
    cases q
    exact ⟨w, f1, f2, rfl, h1, t, nd_comm nd, fun a ha => List.mem_append.mpr (List.mem_append.mp ha).symm⟩
  | some w :: σ, some (k, e) :: ρ, fp, i + 1, ⟨f1, f2, ef, h1, t⟩, nd, q => by
    subst ef
    obtain ⟨n1, n2, n3⟩ := List.nodup_append.mp nd
    obtain ⟨v, f, fp', e1, e2, e3, e4, e5⟩ := OwnE.take (σ := σ) (ρ := ρ) (i := i) t n2 q
    refine ⟨v, f, f1 ++ fp', e1, e2, ⟨f1, fp', rfl, h1, e3⟩, ?_, fun a ha => ?_⟩
    · rw [List.append_assoc]
      exact List.nodup_append.mpr ⟨n1, e4, fun a ha b hb e => n3 a ha b (e5 b hb) e⟩
    · rw [List.append_assoc] at ha
      rcases List.mem_append.mp ha with z | z
      · exact List.mem_append_left _ z
      · exact List.mem_append_right _ (e5 a z)
  | _ :: _, [], _, _, h, _, _ => by cases h
  | [], _ :: _, _, _, h, _, _ => by cases h
  | none :: _, some _ :: _, _, _, h, _, _ => by cases h
theorem StOk.take {d : D} {i : Nat} (S : StOk K B Pn Z0 F0 F H σ ρ fp) (e : slot ρ i = some (n, d)) :
    ∃ v f fp', σ[i]? = some (some v) ∧ Own K F H n v d f ∧ StOk K B Pn Z0 F0 F H σ (ρ.set i none) fp' ∧ Apart B Z0 F fp' f ∧ ∀ a ∈ fp' ++ f, a ∈ fp := by
  obtain ⟨v, f, fp', e1, e2, e3, e4, e5⟩ := S.own.take S.nd e
  obtain ⟨n1, n2, n3⟩ := List.nodup_append.mp e4
  refine ⟨v, f, fp', e1, e2, ⟨S.wf, e3, n1, fun a ha => S.out a (e5 a (List.mem_append_left _ ha)), S.z, S.zB, S.f, S.fr, S.pn⟩, ⟨fun a ha => ?_, n2⟩, e5⟩
  obtain ⟨h1, h2, h3⟩ := S.out a (e5 a (List.mem_append_right _ ha))
  exact ⟨h1, h2, h3, fun z => n3 a z a ha rfl⟩
/-- what is owned is frozen: its addresses go to what may be read -/
theorem StOk.frzV {v : V} {d : D} {f : List Addr} (S : StOk K B Pn Z0 F0 F H σ ρ fp) (h : Own K F H n v d f) (ap : Apart B Z0 F fp f) : ∃ F', StOk K B Pn Z0 F0 F' H σ ρ fp ∧ R K F' v d ∧ Step B f F H F' H := by
  have sF : Same F (fun a => if a ∈ f then H a else F a) := fun a u e => by
    show (if a ∈ f then H a else F a) = some u
    by_cases ha : a ∈ f
    · rw [(ap.1 a ha).1] at e; cases e
    · rw [if_neg ha]; exact e
  have s : Step B f F H (fun a => if a ∈ f then H a else F a) H := ⟨fun _ _ _ h => h, sF, fun a u e => by
      by_cases ha : a ∈ f
      · exact .inr (.inr (.inr ha))
      · rw [if_neg ha] at e; exact .inl e, ⟨fun a u e => by
      by_cases ha : a ∈ f
      · rw [if_pos ha] at e
        obtain ⟨o, eo, mu⟩ := h.there a ha
        rw [eo] at e; cases e
        exact rdH_of (ap.1 a ha).2.1 eo (mut_er mu)
      · rw [if_neg ha] at e; exact S.wf.sub a u e, S.wf.lock, S.wf.bag⟩⟩
  refine ⟨_, S.step s (fun a ha => ⟨(ap.1 a ha).2.2.2, (ap.1 a ha).2.2.1⟩), h.toR sF fun a ha o e _ => ?_, s⟩
  show (if a ∈ f then H a else F a) = some o
  rw [if_pos ha]; exact e
/-- .. as a name's value -/
def frzE : Env → Nat → Env
  | [], _ => []
  | some (_, d) :: r, 0 => some (0, d) :: r
  | none :: r, 0 => none :: r
  | o :: r, i + 1 => o :: frzE r i
theorem frzE_set : ∀ {ρ : Env} {i : Nat} {d : D}, slot ρ i = some (n, d) → frzE ρ i = (ρ.set i none).set i (some (0, d))
  | [], i, d, e => by cases e
  | o :: r, 0, d, e => by cases e; rfl
  | o :: r, i + 1, d, e => by
    have ih := frzE_set (ρ := r) (i := i) (d := d) e
    cases o <;> exact congrArg (List.cons _) ih
theorem frzE_none : ∀ {ρ : Env} {i : Nat}, slot ρ i = none → frzE ρ i = ρ
  | [], i, e => rfl
  | none :: r, 0, e => rfl
  | some p :: r, 0, e => by cases e
  | none :: r, i + 1, e => congrArg (List.cons _) (frzE_none (ρ := r) (i := i) e)
  | some p :: r, i + 1, e => congrArg (List.cons _) (frzE_none (ρ := r) (i := i) e)
theorem slot_lt : ∀ {ρ : Env} {i : Nat} {p : Nat × D}, slot ρ i = some p → i < ρ.length
  | [], i, p, e => by cases e
  | o :: r, 0, p, e => Nat.succ_pos _
  | o :: r, i + 1, p, e => Nat.succ_lt_succ (slot_lt (ρ := r) e)
theorem set_self {α : Type} {x : α} : ∀ {l : List α} {i : Nat}, l[i]? = some x → l.set i x = l
  | [], i, e => rfl
  | y :: l, 0, e => by cases e; rfl
  | y :: l, i + 1, e => congrArg (List.cons y) (set_self (l := l) (i := i) e)
theorem OwnE.set0 {v : V} {d : D} (h : R K F v d) : ∀ {σ : L2.St} {ρ : Env} {fp : List Addr} {i : Nat}, OwnE K F H σ ρ fp → σ[i]? = some (some v) → GK.slot ρ i = none → OwnE K F H σ (ρ.set i (some (0, d))) fp
  | [], [], fp, i, h, e, _ => by simp at e
  | x :: σ, none :: ρ, fp, 0, ho, e, _ => by
    have e' : x = some v := Option.some.inj e
    subst e'
    exact ⟨[], fp, rfl, ⟨h, rfl⟩, ho⟩
  | x :: σ, none :: ρ, fp, i + 1, ho, e, q => OwnE.set0 (σ := σ) (ρ := ρ) (i := i) h ho e q
  | some w :: σ, some (k, e) :: ρ, fp, 0, _, _, q => by cases q
  | some w :: σ, some (k, e) :: ρ, fp, i + 1, ⟨f1, f2, ef, h1, t⟩, q, z => ⟨f1, f2, ef, h1, OwnE.set0 (σ := σ) (ρ := ρ) (i := i) h t q z⟩
  | _ :: _, [], _, _, h, _, _ => by cases h
  | [], _ :: _, _, _, h, _, _ => by cases h
  | none :: _, some _ :: _, _, _, h, _, _ => by cases h
theorem slot_unset : ∀ {ρ : Env} {i : Nat}, slot (ρ.set i none) i = none
  | [], i => rfl
  | o :: r, 0 => rfl
  | o :: r, i + 1 => slot_unset (ρ := r)
theorem StOk.frz (S : StOk K B Pn Z0 F0 F H σ ρ fp) (i : Nat) : ∃ F' fp', StOk K B Pn Z0 F0 F' H σ (frzE ρ i) fp' := by
  cases e : slot ρ i with
  | none => rw [frzE_none e]; exact ⟨F, fp, S⟩
  | some p =>
    obtain ⟨n, d⟩ := p
    obtain ⟨v, f, fp', e1, e2, e3, e4, _⟩ := S.take e
    obtain ⟨F', S', r, _⟩ := e3.frzV e2 e4
    rw [frzE_set e]
    exact ⟨F', fp', S'.wf, S'.own.set0 r e1 slot_unset, S'.nd, S'.out, S'.z, S'.zB, S'.f, S'.fr, S'.pn⟩
end

/-! ### statements -/
section
variable {X : Cx} {st : Stmt} {sts : List Stmt} {e : Expr} {pin : Nat} {mr m : Mode} {g g' : FS} {f : FM} {pos : Pos}
theorem Links.seq {K : PySem.W.Frag} {B : List Addr} {Pn : List V} {Z0 F0 : Hp} {E : DEnds} {Dn : Ends} (hp : Pn.length = pin) (L : Links K B Pn Z0 F0 mr E Dn) : Links K B Pn Z0 F0 mr { E with nx := g E } { Dn with nx := tDS K B pin mr g Dn } :=
  ⟨fun F H σ ρ fp S hg => ⟨Pn, Z0, F0, F, ρ, fp, E, hp, S, hg, L⟩, L.rt, L.bk, L.ct⟩
abbrev gSeq (g g' : FS) : FS := fun E ρ => g { E with nx := g' E } ρ
theorem ds_cons (h1 : DS X B st pin mr g) (h2 : DSs X B sts pin mr g') : DSs X B (st :: sts) pin mr (gSeq g g') :=
  PSs.imp (pss_cons h1 h2) fun Dn σ H ⟨Pn, Z0, F0, F, ρ, fp, E, hp, S, hg, L⟩ => ⟨Pn, Z0, F0, F, ρ, fp, _, hp, S, hg, L.seq hp⟩
theorem ds_one (h1 : DS X B st pin mr g) : DSs X B [st] pin mr g := pss_one h1
theorem ds_nil : DSs X B [] pin mr (fun E ρ => E.nx ρ) := PSs.imp pss_nil fun Dn σ H ⟨Pn, Z0, F0, F, ρ, fp, E, hp, S, hg, L⟩ => L.nx F H σ ρ fp S hg
theorem ds_pass : DS X B (.Pass pos) pin mr (fun E ρ => E.nx ρ) := PS.imp ps_pass fun Dn σ H ⟨Pn, Z0, F0, F, ρ, fp, E, hp, S, hg, L⟩ => L.nx F H σ ρ fp S hg
theorem ds_break : DS X B (.Break pos) pin mr (fun E ρ => E.bk ρ) := PS.imp ps_break fun Dn σ H ⟨Pn, Z0, F0, F, ρ, fp, E, hp, S, hg, L⟩ => L.bk F H σ ρ fp S hg
theorem ds_continue : DS X B (.Continue pos) pin mr (fun E ρ => E.ct ρ) := PS.imp ps_continue fun Dn σ H ⟨Pn, Z0, F0, F, ρ, fp, E, hp, S, hg, L⟩ => L.ct F H σ ρ fp S hg
/-- a name is frozen ahead of a statement -/
theorem ds_frz (i : Nat) (h : DS X B st pin mr g) : DS X B st pin mr (fun E ρ => g E (frzE ρ i)) :=
  PS.imp h fun Dn σ H ⟨Pn, Z0, F0, F, ρ, fp, E, hp, S, hg, L⟩ => by
    obtain ⟨F', fp', S'⟩ := S.frz i
    exact ⟨Pn, Z0, F0, F', _, fp', E, hp, S', hg, L⟩
/-- x = e -/
abbrev gSet (i n : Nat) (f : FM) : FS := fun E ρ => i < ρ.length ∧ f ρ fun d ρ' => E.nx (ρ'.set i (some (n, d)))
theorem ds_setM (i n : Nat) {x : Str} {pos' : Pos} (hN : X.N.Nodup) (hi : X.N[i]? = some x) (hx : Loc X.env.scope x) (hp : pin ≤ i) (he : DM X B e pin (.own n) f) (hs : swapsWith e (some (.Name x pos')) pos.line X.env = pure false := by rfl)
    (hf : X.fn x = true ∨ X.env.scope.names.lookup x = some .local := by first | exact .inl rfl | exact .inr rfl | assumption) : DS X B (.Assign [.Name x pos'] e pos) pin mr (fun E ρ => f ρ fun d ρ' => i < ρ'.length ∧ E.nx (ρ'.set i (some (n, d)))) :=
  PS.imp (ps_set hN hi hx he hs hf) fun Dn σ H ⟨Pn, Z0, F0, F, ρ, fp, E, hpl, S, hg, L⟩ => ⟨Pn, Z0, F0, F, ρ, fp, _, hpl, S, hg, fun F' H' ρ' fp' v d f' S' hv ap hR => by
    obtain ⟨fp2, S2⟩ := S'.set hv ap hR.1 (by omega)
    exact L.nx F' H' _ _ fp2 S2 hR.2⟩
/-- e; its value dropped -/
theorem ds_exprM (he : DM X B e pin m f) (hs : swapsWith e none pos.line X.env = pure false := by rfl) : DS X B (.Expr e pos) pin mr (fun E ρ => f ρ fun _ ρ' => E.nx ρ') :=
  PS.imp (ps_expr he hs) fun Dn σ H ⟨Pn, Z0, F0, F, ρ, fp, E, hpl, S, hg, L⟩ => ⟨Pn, Z0, F0, F, ρ, fp, _, hpl, S, hg, fun F' H' ρ' fp' v d f' S' hv ap hR => L.nx F' H' σ ρ' fp' S' hR⟩
/-- return e -/
theorem ds_retM (he : DM X B e pin mr f) : DS X B (.Return (some e) pos) pin mr (fun E ρ => f ρ E.rt) :=
  PS.imp (ps_ret he) fun Dn σ H ⟨Pn, Z0, F0, F, ρ, fp, E, hpl, S, hg, L⟩ => ⟨Pn, Z0, F0, F, ρ, fp, _, hpl, S, hg, fun F' H' ρ' fp' v d f' S' hv ap hR => L.rt F' H' σ ρ' fp' v d f' S' hv ap hR⟩
theorem ds_retN : DS X B (.Return none pos) pin mr (fun E ρ => E.rt .non ρ) :=
  PS.imp ps_retN fun Dn σ H ⟨Pn, Z0, F0, F, ρ, fp, E, hpl, S, hg, L⟩ => L.rt F H σ ρ fp .non .non [] S (Val.atom rfl fun _ => .non) ⟨fun a h => (by cases h), List.nodup_nil⟩ hg
/-- the value of a name, taken away from it -/
def mTake (i n : Nat) : FM := fun ρ R => match slot ρ i with
  | some (k, d) => k = n ∧ R d (ρ.set i none)
  | none => False
theorem dm_take (i n : Nat) {x : Str} (hN : X.N[i]? = some x := by rfl) (hv : Vis X.env.scope x := by first | exact Or.inl rfl | exact Or.inr (Or.inl rfl) | exact Or.inr (Or.inr rfl)) (hd : (x == ("__debug__" : Str)) = false := by decide)
    (hcd : (x == ("__classdict__" : Str)) = false := by decide) : DM X B (.Name x pos) pin (.own n) (mTake i n) := PE.imp (pe_var hN hv hd hcd) fun σ H Q ⟨Pn, Z0, F0, F, ρ, fp, R, hpl, S, hf, k⟩ => by
  unfold mTake at hf
  cases q : slot ρ i with
  | none => rw [q] at hf; exact hf.elim
  | some p =>
    obtain ⟨n', d⟩ := p
    rw [q] at hf
    obtain ⟨rfl, hR⟩ := hf
    obtain ⟨v, f, fp', e1, e2, e3, e4, _⟩ := S.take q
    exact ⟨v, e1, k F H _ fp' v d f e3 e2 e4 hR⟩
/-- if -/
theorem ds_if {c : Expr} {a b : List Stmt} {fc : FT} (hc : DT X B c fc) (ha : DSs X B a pin mr g) (hb : DSs X B b pin mr g') : DS X B (.If c a b pos) pin mr (fun E ρ => fc ρ fun t => if t = true then g E ρ else g' E ρ) :=
  PS.imp (ps_if hc ha hb) fun Dn σ H ⟨Pn, Z0, F0, F, ρ, fp, E, hpl, S, hg, L⟩ => ⟨F, ρ, fp, _, S.base, hg, fun F' H' t s ht => by
    have S' := S.step s fun a h => (by cases h)
    cases t with
    | true => exact ⟨Pn, Z0, F0, F', ρ, fp, E, hpl, S', ht, L⟩
    | false => exact ⟨Pn, Z0, F0, F', ρ, fp, E, hpl, S', by simpa using ht, L⟩⟩
end
end GK

namespace GK
open PySem PySem.Spec PyProof.Rows L2

/-! ### while -/
section
variable {X : Cx} {pin : Nat} {mr : Mode} {g gb : FS} {fc : FT} {pos : Pos}
def gWhile (fc : FT) (gb : FS) : FS := fun E ρ => ∃ W : Nat → Env → Prop, (∃ m, W m ρ) ∧ ∀ m ρ, W m ρ → fc ρ fun t => if t = true then gb { E with nx := fun ρ' => ∃ m', m' < m ∧ W m' ρ', ct := fun ρ' => ∃ m', m' < m ∧ W m' ρ', bk := E.nx } ρ else E.nx ρ
theorem ds_while {c : Expr} {body : List Stmt} (hp : PassesOwn (model X.prog X.w) X.A X.env X.xe) (hc : DT X B c fc) (hb : DSs X B body pin mr gb) : DS X B (.While c body [] pos) pin mr (gWhile fc gb) :=
  PS.imp (ps_while hp hc hb) fun Dn σ H ⟨Pn, Z0, F0, F, ρ, fp, E, hpl, S, ⟨W, ⟨m0, w0⟩, turn⟩, L⟩ => by
    refine ⟨fun m σ H => ∃ F ρ fp, StOk X.K B Pn Z0 F0 F H σ ρ fp ∧ W m ρ, ⟨m0, F, ρ, fp, S, w0⟩, ?_⟩
    rintro m σ H ⟨F, ρ, fp, S, w⟩
    refine ⟨F, ρ, fp, _, S.base, turn m ρ w, fun F' H' t s ht => ?_⟩
    have S' := S.step s fun a h => (by cases h)
    cases t with
    | true =>
      dsimp only at ht ⊢
      rw [if_pos rfl] at ht ⊢
      refine ⟨fun σ' H' => ∃ F ρ fp, StOk X.K B Pn Z0 F0 F H' σ' ρ fp ∧ ∃ m', m' < m ∧ W m' ρ, fun σ' H' ⟨F, ρ, fp, S, m', hm, w'⟩ => ⟨m', hm, F, ρ, fp, S, w'⟩, ?_⟩
      exact ⟨Pn, Z0, F0, F', ρ, fp, _, hpl, S', ht, ⟨fun F H σ ρ fp S h => ⟨F, ρ, fp, S, h⟩, L.rt, L.nx, fun F H σ ρ fp S h => ⟨F, ρ, fp, S, h⟩⟩⟩
    | false =>
      dsimp only at ht ⊢
      rw [if_neg Bool.false_ne_true] at ht ⊢
      exact L.nx F' H' σ ρ fp S' ht
end

/-! ### what is walked -/
/-- what stands and is nobody's -/
def prot (B fp : List Addr) (H : Hp) : Hp := fun a => if a ∈ fp ∨ a ∈ B then none else H a
/-- the iterator gives these things, one by one, wherever what stood stands -/
def ItD (K : PySem.W.Frag) (B : List Addr) (Z F1 : Hp) (J : It) (xs : List D) : Prop := ∀ (i : Nat) (F H : Hp), WF B F H → Same Z H → Same F1 F →
  (i < xs.length → J.go i H ∧ ∀ x H', J.yld i H x H' → ∃ F' d, xs[i]? = some d ∧ Step B [] F H F' H' ∧ R K F' x d) ∧ (xs.length ≤ i → J.stop i H)
abbrev FI := Env → (List D → Prop) → Prop
def tDI (K : PySem.W.Frag) (B : List Addr) (fi : FI) : TI := fun σ H R => ∃ F ρ fp Rx, StOk K B [] noH noH F H σ ρ fp ∧ fi ρ Rx ∧
  ∀ J F1 H1 xs, Step B [] F H F1 H1 → ItD K B (prot B fp H1) F1 J xs → Rx xs → R J H1
abbrev DI (X : Cx) (B : List Addr) (tg iter : Expr) (fi : FI) : Prop := PI X tg iter (tDI X.K B fi)
theorem PI.imp {X : Cx} {tg iter : Expr} {t t' : TI} (h : PI X tg iter t) (k : ∀ σ H R, t' σ H R → t σ H R) : PI X tg iter t' := ⟨fun pins s σ H R I q => h.run pins s σ H R I (k σ H R q)⟩
/-- a target: what the names are behind it -/
structure DG (X : Cx) (pin : Nat) (tg : Expr) (t : D → Env → Option Env) : Prop where
  ok : ∃ g : TG, PG X tg g ∧ ∀ (B : List Addr) (Pn : List V) (Z0 F0 F H : Hp) (σ : L2.St) (ρ ρ' : Env) (fp : List Addr) (v : V) (d : D), Pn.length = pin → StOk X.K B Pn Z0 F0 F H σ ρ fp → R X.K F v d → t d ρ = some ρ' →
    ∀ Q : L2.St → Hp → Prop, (∀ σ' fp', StOk X.K B Pn Z0 F0 F H σ' ρ' fp' → Q σ' H) → g v σ H Q
section
variable {K : PySem.W.Frag} {B fp : List Addr} {F F1 H H1 : Hp}
theorem prot_same : Same (prot B fp H) H := fun a o e => by
  unfold prot at e
  split at e
  · cases e
  · exact e
theorem prot_in {a : Addr} (h : a ∈ fp ∨ a ∈ B) : prot B fp H a = none := by unfold prot; rw [if_pos h]
theorem prot_out {a : Addr} (h : a ∉ fp) (h' : a ∉ B) : prot B fp H a = H a := by unfold prot; rw [if_neg (by simp [h, h'])]
/-- what may be read is nobody's -/
theorem StOk.protF {Pn : List V} {Z0 F0 : Hp} {σ : L2.St} {ρ : Env} (S : StOk K B Pn Z0 F0 F H σ ρ fp) {a : Addr} {u : HO} (h : F a = some u) : ∃ x, prot B fp H a = some x ∧ erO x = u := by
  obtain ⟨hb, x, e, n⟩ := rdH_some (S.wf.sub a u h)
  refine ⟨x, ?_, n⟩
  rw [prot_out (fun hf => ?_) hb]
  · exact e
  · rw [(S.out a hf).1] at h; cases h
/-- the state, with all that is nobody's kept from here on -/
theorem StOk.rebase {Pn : List V} {Z0 F0 : Hp} {σ : L2.St} {ρ : Env} (S : StOk K B Pn Z0 F0 F H σ ρ fp) : StOk K B Pn (prot B fp H) F F H σ ρ fp :=
  ⟨S.wf, S.own, S.nd, fun a ha => ⟨(S.out a ha).1, (S.out a ha).2.1, prot_in (.inl ha)⟩, prot_same, fun a h => prot_in (.inr h), fun _ _ h => h, fun a u h => .inl h, S.pn⟩
theorem StOk.zp {Pn : List V} {Z0 F0 : Hp} {σ : L2.St} {ρ : Env} (S : StOk K B Pn Z0 F0 F H σ ρ fp) : Same Z0 (prot B fp H) := fun a o e => by
  have h1 : a ∉ fp := fun h => by rw [(S.out a h).2.2] at e; cases e
  have h2 : a ∉ B := fun h => by rw [S.zB a h] at e; cases e
  rw [prot_out h1 h2]; exact S.z a o e
theorem Apart.unbase {Z Z' : Hp} {f : List Addr} (s : Same Z Z') (ap : Apart B Z' F fp f) : Apart B Z F fp f :=
  ⟨fun a ha => ⟨(ap.1 a ha).1, (ap.1 a ha).2.1, s.free (ap.1 a ha).2.2.1, (ap.1 a ha).2.2.2⟩, ap.2⟩
/-- .. and back -/
theorem StOk.unbase {Pn : List V} {Z0 F0 F' H' : Hp} {σ σ' : L2.St} {ρ ρ' : Env} {fp' : List Addr} (S : StOk K B Pn Z0 F0 F H σ ρ fp) (T : StOk K B Pn (prot B fp H) F F' H' σ' ρ' fp') : StOk K B Pn Z0 F0 F' H' σ' ρ' fp' := by
  have zp := S.zp
  refine ⟨T.wf, T.own, T.nd, fun a ha => ⟨(T.out a ha).1, (T.out a ha).2.1, ?_⟩, fun a o e => T.z a o (zp a o e), S.zB, fun a u e => T.f a u (S.f a u e), fun a u e => ?_, T.pn⟩
  · cases q : Z0 a with
    | none => rfl
    | some o =>
      have := (T.out a ha).2.2
      rw [zp a o q] at this; cases this
  · rcases T.fr a u e with z | z | z
    · exact S.fr a u z
    · right; left
      cases q : Z0 a with
      | none => rfl
      | some o => rw [zp a o q] at z; cases z
    · exact .inr (.inr z)
end

/-- the turns of a for -/
def forD (t : D → Env → Option Env) (gb : FS) : List D → FS
  | [] => fun E ρ => E.nx ρ
  | x :: xs => fun E ρ => ∃ ρ', t x ρ = some ρ' ∧ gb { E with nx := fun ρ' => forD t gb xs E ρ', ct := fun ρ' => forD t gb xs E ρ', bk := E.nx } ρ'
def gFor (fi : FI) (t : D → Env → Option Env) (gb : FS) : FS := fun E ρ => fi ρ fun xs => forD t gb xs E ρ
section
variable {X : Cx} {pin : Nat} {mr : Mode} {g gb : FS} {fi : FI} {t : D → Env → Option Env} {pos : Pos}
theorem ds_for {tg iter : Expr} {body : List Stmt} (hp : PassesOwn (model X.prog X.w) X.A X.env X.xe) (hc : X.calm = true) (hi : DI X B tg iter fi) (hg : DG X pin tg t) (hb : DSs X B body pin mr gb)
    (hs : ∀ x, foldedSetIterable iter X.env x = pure x := by intro _; rfl) : DS X B (.For tg iter body [] pos) pin mr (gFor fi t gb) := by
  obtain ⟨g, pg, kg⟩ := hg.ok
  refine PS.imp (ps_for hp hc hi pg hb hs) fun Dn σ H ⟨Pn, Z0, F0, F, ρ, fp, E, hpl, S, hf, L⟩ => ⟨F, ρ, fp, _, S.base, hf, fun J F1 H1 xs s1 it hx => ?_⟩
  have S1 := S.step s1 fun a h => (by cases h)
  refine ⟨fun i m σ H => ∃ F ρ fp', StOk X.K B Pn (prot B fp H1) F1 F H σ ρ fp' ∧ m = xs.length - i ∧ i ≤ xs.length ∧ forD t gb (xs.drop i) E ρ, ⟨xs.length, F1, ρ, fp, S1.rebase, rfl, Nat.zero_le _, hx⟩, ?_⟩
  rintro i m σ H ⟨F, ρ, fp', S, rfl, hi, hr⟩
  obtain ⟨k1, k2⟩ := it i F H S.wf S.z S.f
  by_cases hlt : i < xs.length
  · refine .inr ⟨(k1 hlt).1, fun σ' H' => ∃ F ρ fp', StOk X.K B Pn (prot B fp H1) F1 F H' σ' ρ fp' ∧ forD t gb (xs.drop (i + 1)) E ρ, fun σ' H' ⟨F, ρ, fp', S, h⟩ => ⟨xs.length - (i + 1), by omega, F, ρ, fp', S, rfl, hlt, h⟩, fun x H' y => ?_⟩
    obtain ⟨F2, d, ed, s2, r2⟩ := (k1 hlt).2 x H' y
    have S2 := S.step s2 fun a h => (by cases h)
    rw [List.drop_eq_getElem_cons hlt] at hr
    have ed' : xs[i] = d := Option.some.inj ((List.getElem?_eq_getElem hlt).symm.trans ed)
    rw [ed'] at hr
    obtain ⟨ρ', et, hb'⟩ := hr
    refine kg B Pn _ F1 F2 H' σ ρ ρ' fp' x d hpl S2 r2 et _ fun σ2 fp2 S3 => ?_
    exact ⟨Pn, _, F1, F2, ρ', fp2, _, hpl, S3, hb', ⟨fun F H σ ρ fp S h => ⟨F, ρ, fp, S, h⟩, fun F H σ ρ fp' v d f S hv ap h => L.rt F H σ ρ fp' v d f (S1.unbase S) hv (ap.unbase S1.zp) h,
      fun F H σ ρ fp S h => L.nx F H σ ρ fp (S1.unbase S) h, fun F H σ ρ fp S h => ⟨F, ρ, fp, S, h⟩⟩⟩
  · have e : i = xs.length := by omega
    subst e
    rw [List.drop_length] at hr
    exact .inl ⟨k2 (Nat.le_refl _), L.nx F H σ ρ fp' (S1.unbase S) hr⟩
end
end GK

namespace GK
open PySem PySem.Spec PyProof.Rows L2

/-! ### a def's promise over data: wp of the arguments and of what is wanted -/
abbrev FSpec := List D → (D → Prop) → Prop
/-- .. that may name the bag -/
abbrev BSpec := List Addr → FSpec
def spD (K : PySem.W.Frag) (m : Mode) (W : BSpec) : Sp := fun vs H Q _ => ∃ B F ds R, WF B F H ∧ RL K F vs ds ∧ W B ds R ∧ Post K B [] F H m R Q
/-- as a state -/
def envOf : List D → Env := List.map fun d => some (0, d)
def startE (N : List Str) (ds : List D) : Env := envOf ds ++ List.replicate (N.length - ds.length) none
section
variable {K : PySem.W.Frag} {F H : Hp}
theorem ownE_none : ∀ n : Nat, OwnE K F H (List.replicate n none) (List.replicate n none) []
  | 0 => rfl
  | n + 1 => ownE_none n
theorem ownE_start {vs : List V} {ds : List D} (n : Nat) : RL K F vs ds → OwnE K F H (vs.map some ++ List.replicate n none) (envOf ds ++ List.replicate n none) []
  | .nil => ownE_none n
  | .cons h t => ⟨[], [], rfl, ⟨h, rfl⟩, ownE_start n t⟩
theorem start_eq {N : List Str} {vs : List V} : start N vs = vs.map some ++ List.replicate (N.length - vs.length) none := rfl
end
/-- the ends of a def -/
abbrev DEnds.fn (R : D → Prop) : DEnds := { nx := fun _ => R .non, rt := fun d _ => R d }
section
variable {P : Program} {w : World} {K : PySem.W.Frag} {mg : Str → Option Value} {base : Heap}
/-- THE RULE for a def -/
theorem Fun_okD {x qual : Str} {st : Stmt} {f : Addr} {fd : FuncData} {N ps : List Str} {k : Nat} {m : Mode} {W : BSpec} (F : Fun K x qual st f fd) (S : FnScope N ps (defScope st)) (len : ∀ B ds R, W B ds R → ds.length = ps.length)
    (hbody : ∀ (B : List Addr) (cdv : Value) (A : Around) (outer : List PySem.Env) (s : Shared) (H : Hp) (E : XK), Room k (A.deeper (envOfC qual (defScope st) s.heap.objs.size f cdv)) →
      ∃ g, DSs (cxOf CX0 P w K mg base N qual (defScope st) f cdv A outer s H E).nox B (defBody st) 0 m g ∧ ∀ ds R, W B ds R → g (DEnds.fn R) (startE N ds)) : FnOk P w K mg base CX0 (k + 1) f fd ps (spD K m W) := by
  refine F.ok S (fun vs H Q E ⟨B, F, ds, R, w, r, hW, k⟩ => by rw [r.length]; exact len B ds R hW) fun cdv A outer s H vs Q E hr ⟨B, F, ds, R, w, r, hW, k⟩ => ?_
  obtain ⟨g, hg, hq⟩ := hbody B cdv A outer s H E hr
  refine ⟨_, hg, [], prot B [] H, F, F, startE N ds, [], DEnds.fn R, rfl, ⟨w, ?_, List.nodup_nil, fun a h => (by cases h), prot_same, fun a h => prot_in (.inr h), fun _ _ h => h, fun a u h => .inl h, fun i v e => (by simp at e)⟩, hq ds R hW, ?_⟩
  · rw [start_eq]
    unfold startE
    rw [r.length]
    exact ownE_start _ r
  have back : ∀ {F' H' : Hp} {σ' : L2.St} {ρ' : Env} {fp' : List Addr}, StOk K B [] (prot B [] H) F F' H' σ' ρ' fp' → Step B [] F H F' H' := fun {F' H' σ' ρ' fp'} T =>
    ⟨fun a o hb e => T.z a o (by rw [prot_out (by simp) hb]; exact e), T.f, fun a u e => by
      rcases T.fr a u e with z | z | z
      · exact .inl z
      · right; left
        by_cases hb : a ∈ B
        · have := T.wf.outB hb
          rw [this] at e; cases e
        · rw [prot_out (by simp) hb] at z; exact z
      · exact .inr (.inr (.inl z)), T.wf⟩
  exact ⟨fun F' H' σ' ρ' fp' T h => k F' H' .non .non [] (back T) (Val.atom rfl fun _ => .non) (fun a h => (by cases h)) List.nodup_nil h,
    fun F' H' σ' ρ' fp' v d f T hv ap h => k F' H' v d f (back T) hv (fun a ha => by
      obtain ⟨h1, h2, h3, h4⟩ := ap.1 a ha
      refine ⟨.inr ?_, h1, h2⟩
      rw [prot_out (by simp) h2] at h3; exact h3) ap.2 h,
    fun _ _ _ _ _ _ h => h.elim, fun _ _ _ _ _ _ h => h.elim⟩
end

/-! ### calls -/
theorem ValL.rl0 {K : PySem.W.Frag} {B : List Addr} {F H : Hp} {ms : List Mode} {vs : List V} {ds : List D} {fp : List Addr} (hm : ∀ m ∈ ms, m = .own 0) (h : ValL K B F H ms vs ds fp) : RL K F vs ds := (h.own hm).toRL0
theorem ValL.rd {K : PySem.W.Frag} {B : List Addr} {F H : Hp} (w : WF B F H) : ∀ {ms : List Mode} {vs : List V} {ds : List D} {fp : List Addr}, (∀ a ∈ fp, a ∉ B) → ValL K B F H ms vs ds fp → RL K (rdH B H) vs ds
  | [], [], [], _, _, h => .nil
  | m :: ms, v :: vs, d :: ds, fp, hB, ⟨f1, f2, e, h, t⟩ => .cons (h.rd w fun a ha => hB a (by rw [e]; exact List.mem_append_left _ ha)) (ValL.rd w (fun a ha => hB a (by rw [e]; exact List.mem_append_right _ ha)) t)
section
variable {K : PySem.W.Frag} {B A : List Addr} {F F' H H' : Hp} {n : Nat} {R : D → Prop} {Q : VK} {W : BSpec} {vs : List V} {ds : List D}
theorem wf_rd (w : WF B F H) : WF B (rdH B H) H := ⟨fun _ _ h => h, w.lock, w.bag⟩
/-- a call whose arguments are all that may be read -/
theorem call_all {m : Mode} (w : WF B F H) (r : RL K F vs ds) (h : W B ds R) (k : Post K B A F H m R Q) : spD K m W vs H Q fun _ _ _ => False :=
  ⟨B, F, ds, R, w, r, h, k.after (Step.refl w) fun a h => (by cases h)⟩
/-- a call whose arguments are some that others own: what comes back is flat below what is new -/
theorem call_rd (w : WF B F H) (r : RL K (rdH B H) vs ds) (h : W B ds fun d => flatN n d = true ∧ R d) (k : Post K B A F H (.own n) R Q) : spD K (.own n) W vs H Q fun _ _ _ => False := by
  refine ⟨B, rdH B H, ds, _, wf_rd w, r, h, fun F' H' v d fp s hv ho hn hR => ?_⟩
  have hv : Own K F' H' n v d fp := hv
  have s2 : Step B A F H F H' := ⟨s.same, fun _ _ h => h, fun _ _ h => .inl h, ⟨fun a u e => rdH_same s.same a u (w.sub a u e), s.wf.lock, s.wf.bag⟩⟩
  have ht := hv.there
  refine k _ H' v d fp s2.addT (Own.flat (fun a vs e => addT_tup s2.wf.sub (s.wf.sub _ _ e)) hR.1 hv) (fun a ha => ?_) hn hR.2
  obtain ⟨h1, h2, h3⟩ := ho a ha
  refine ⟨h1.elim (fun h => by cases h) .inr, ?_, h3⟩
  have hz : H a = none := h1.elim (fun h => by cases h) id
  obtain ⟨o, e, mu⟩ := ht a ha
  cases q : addT F (rdH B H') a with
  | none => rfl
  | some u =>
    exfalso
    rcases addT_cases q with z | ⟨z, t⟩
    · rw [F_none w hz] at z; cases z
    · obtain ⟨_, x, ex, er⟩ := rdH_some z
      rw [e] at ex; cases ex
      rw [mut_er mu] at er; subst er
      cases o <;> first | exact mu | exact t
end
/-- is any argument another's -/
abbrev gCall (W : FSpec) (xs : List D) (R : D → Prop) : Prop := W xs R
abbrev gCallR (n : Nat) (W : FSpec) (xs : List D) (R : D → Prop) : Prop := W xs fun d => flatN n d = true ∧ R d
section
variable {X : Cx} {k : Nat} {fa C : Addr} {fd : FuncData} {ps : List Str} {ds : List Value} {dvs : List V} {x : Str} {p pos apos : Pos} {e o : Expr} {es : List Expr} {m mo : Mode} {ms : List Mode} {fs : FA} {fo : FE} {W : BSpec} {dd : List D} {n : Nat}
/-- what a call of a def wants of its defaults: they are data of the written part -/
abbrev Dflt (K : PySem.W.Frag) (dvs : List V) (dd : List D) : Prop := ∀ F, RL K F dvs dd
theorem de_call (F : FnOk X.prog X.w X.K X.mg X.base CX0 k fa fd ps (spD X.K m W)) (hr : Room k X.A) (hg : Gl X x) (hm : X.mg x = some (.ref fa)) (hk : PySem.W.keepIn X.K (.ref fa) = true) (hb : Binds X.K fd ps ds) (hd : Vals dvs ds) (hdd : Dflt X.K dvs dd)
    (ha : DA X B (e :: es) ms fs) (hms : ∀ m ∈ ms, m = .own 0 := by simp) (hdb : (x == ("__debug__" : Str)) = false := by decide) (he : starEach (e :: es) X.env = (false, eval e X.env) :: starEach es X.env := by rfl) (hpl : (backTo pos (starEach es X.env)).any (·.1) = false := by rfl) :
    DE X B (.Call (.Name x p) (e :: es) [] pos) m (fArgs (fun xs R => W B (xs ++ dd) R) fs) :=
  PE.imp (pe_call F hr hg hm hk hb hd pass0 ha hdb he hpl) fun σ H Q ⟨F, ρ, fp, R, S, hf, k⟩ => ⟨F, ρ, fp, _, S, hf, fun F1 H1 vs xs fp1 s1 hv o1 n1 hW =>
    call_all s1.wf ((hv.rl0 hms).append (hdd F1)) hW (k.after s1 (A1 := fp1) fun a ha => (o1 a ha).1)⟩
theorem de_callR (F : FnOk X.prog X.w X.K X.mg X.base CX0 k fa fd ps (spD X.K (.own n) W)) (hr : Room k X.A) (hg : Gl X x) (hm : X.mg x = some (.ref fa)) (hk : PySem.W.keepIn X.K (.ref fa) = true) (hb : Binds X.K fd ps ds) (hd : Vals dvs ds) (hdd : Dflt X.K dvs dd)
    (ha : DA X B (e :: es) ms fs) (hdb : (x == ("__debug__" : Str)) = false := by decide) (he : starEach (e :: es) X.env = (false, eval e X.env) :: starEach es X.env := by rfl) (hpl : (backTo pos (starEach es X.env)).any (·.1) = false := by rfl) :
    DE X B (.Call (.Name x p) (e :: es) [] pos) (.own n) (fArgs (fun xs R => W B (xs ++ dd) fun d => flatN n d = true ∧ R d) fs) :=
  PE.imp (pe_call F hr hg hm hk hb hd pass0 ha hdb he hpl) fun σ H Q ⟨F, ρ, fp, R, S, hf, k⟩ => ⟨F, ρ, fp, _, S, hf, fun F1 H1 vs xs fp1 s1 hv o1 n1 hW =>
    call_rd s1.wf ((hv.rd s1.wf fun a ha => (o1 a ha).2.2).append (hdd _)) hW (k.after s1 (A1 := fp1) fun a ha => (o1 a ha).1)⟩
theorem de_call0 (F : FnOk X.prog X.w X.K X.mg X.base CX0 k fa fd ps (spD X.K m W)) (hr : Room k X.A) (hg : Gl X x) (hm : X.mg x = some (.ref fa)) (hk : PySem.W.keepIn X.K (.ref fa) = true) (hb : Binds X.K fd ps ds) (hd : Vals dvs ds) (hdd : Dflt X.K dvs dd)
    (hdb : (x == ("__debug__" : Str)) = false := by decide) : DE X B (.Call (.Name x p) [] [] pos) m (fun _ R => W B dd R) :=
  PE.imp (pe_call0 F hr hg hm hk hb hd pass0 hdb) fun σ H Q ⟨F, ρ, fp, R, S, hf, k⟩ => by
    have := call_all (K := X.K) (vs := [] ++ dvs) (ds := dd) S.wf (hdd F) hf k
    exact this
/-- o.m(e, ..) : the object is one that may be read -/
theorem lookup_none {fs : List (Str × V)} {es : List (Str × D)} {m : Str} (hk : fs.map (·.1) = es.map (·.1)) (h : es.lookup m = none) : fs.lookup m = none := by
  induction fs generalizing es with
  | nil => rfl
  | cons p r ih =>
    cases es with
    | nil => cases hk
    | cons q s =>
      rw [List.map_cons, List.map_cons] at hk
      injection hk with h1 h2
      obtain ⟨pk, pv⟩ := p
      obtain ⟨qk, qv⟩ := q
      dsimp only at h1
      subst h1
      rw [List.lookup_cons] at h ⊢
      cases hb : m == pk with
      | true => rw [hb] at h; cases h
      | false => rw [hb] at h; exact ih h2 h
theorem lookup_some {fs : List (Str × V)} {es : List (Str × D)} {m : Str} {d : D} (hk : fs.map (·.1) = es.map (·.1)) (h : es.lookup m = some d) : ∃ (i : Nat) (v : V), fs.lookup m = some v ∧ (fs.map (·.2))[i]? = some v ∧ (es.map (·.2))[i]? = some d := by
  induction fs generalizing es with
  | nil =>
    cases es with
    | nil => cases h
    | cons q s => cases hk
  | cons p r ih =>
    cases es with
    | nil => cases hk
    | cons q s =>
      rw [List.map_cons, List.map_cons] at hk
      injection hk with h1 h2
      obtain ⟨pk, pv⟩ := p
      obtain ⟨qk, qv⟩ := q
      dsimp only at h1
      subst h1
      rw [List.lookup_cons] at h ⊢
      cases hb : m == pk with
      | true =>
        rw [hb] at h
        exact ⟨0, pv, rfl, rfl, by simpa using h⟩
      | false =>
        rw [hb] at h
        obtain ⟨i, v, e1, e2, e3⟩ := ih h2 h
        exact ⟨i + 1, v, e1, by simpa using e2, by simpa using e3⟩
/-- an instance of the class, without an attribute of the method's name -/
def isObjD (C : Addr) (m : Str) : D → Prop
  | .obj C' es => C' = C ∧ es.lookup m = none
  | _ => False
theorem isObjD.inv {C : Addr} {m : Str} : ∀ {d : D}, isObjD C m d → ∃ es, d = .obj C es ∧ es.lookup m = none
  | .obj C' es, h => ⟨es, by rw [h.1], h.2⟩
  | .non, h | .bl _, h | .int _, h | .str _, h | .raw _, h | .tup _, h | .lst _, h | .dK _, h | .dT _, h => h.elim
theorem de_meth {mt : Str} {pl : Sem Bool} (ho : DE X B o (.own 0) fo) (c : Cls X.K C) (hm : Meth X.K C mt fa) (F : FnOk X.prog X.w X.K X.mg X.base CX0 k fa fd ps (spD X.K m W)) (hr : Room k X.A) (hb : Binds X.K fd ps ds) (hd : Vals dvs ds) (hdd : Dflt X.K dvs dd)
    (ha : DA X B (e :: es) ms fs) (hms : ∀ m ∈ ms, m = .own 0 := by simp)
    (hst : starEach (e :: es) X.env = (false, eval e X.env) :: starEach es X.env := by rfl) (hpl : (backTo pos (starEach es X.env)).any (·.1) = false := by rfl)
    (ht : eval (.Call (.Attribute o mt apos) (e :: es) [] pos) X.env = (do
      let ov ← eval o X.env
      standAt apos.atName
      let (f, first) ← holding [ov] (getMethod ov mt pl)
      callWith pos f first (backTo pos (starEach (e :: es) X.env)) (backToKw pos (keywordEach [] X.env))) := by rfl) :
    DE X B (.Call (.Attribute o mt apos) (e :: es) [] pos) m (fun ρ R => fo ρ fun x => isObjD C mt x ∧ fs ρ fun xs => W B (x :: (xs ++ dd)) R) :=
  PE.imp (pe_meth ho c hm F hr hb hd pass0 ha hst hpl ht) fun σ H Q ⟨F, ρ, fp, R, S, hf, k⟩ => by
    refine ⟨F, ρ, fp, _, S, hf, fun F1 H1 v x f1 s1 hv o1 n1 ⟨hx, hg⟩ => ?_⟩
    obtain ⟨es', rfl, hl'⟩ := hx.inv
    obtain ⟨ef, a, dx, gs, ev, ea, hk, it⟩ := hv.obj rfl s1.wf
    subst ev
    refine ⟨a, dx, gs, rfl, ea, lookup_none hk hl', F1, ρ, fp, _, S.step s1 (fun a ha => by cases ha), hg, fun F2 H2 vs xs f2 s2 hv2 o2 n2 hW => ?_⟩
    have hx1 : GK.R X.K F2 (.ref a) (.obj C es') := hv.1.mono s2.fs
    exact call_all s2.wf (.cons hx1 ((hv2.rl0 hms).append (hdd F2))) hW ((k.after s1 (A1 := []) fun a ha => (by cases ha)).after s2 (A1 := f2) fun a ha => (o2 a ha).1)
end
end GK

namespace GK
open PySem PySem.Spec PyProof.Rows L2

/-! ### attributes -/
def gFld (C : Addr) (f : Str) : D → (D → Prop) → Prop
  | .obj C' es, R => C' = C ∧ ∃ d, es.lookup f = some d ∧ R d
  | _, _ => False
section
variable {X : Cx} {e : Expr} {f : Str} {pos : Pos} {m : Mode} {fo : FE} {C : Addr}
theorem de_fld (he : DE X B e m fo) (hm : m.look = true) (c : Cls X.K C) (nf : NoAttr X.K C f) (hb : attributeBase e f X.env (eval e X.env) = eval e X.env := by rfl) : DE X B (.Attribute e f pos) m.child (fUn (gFld C f) fo) :=
  PE.imp (pe_fld he hb) fun σ H Q h => tD_un (m := m.child) (g := gFld C f) (f := fo) (r := fun x H1 Q => ∃ a C' dx fs v, x = .ref a ∧ H1 a = some (.ins C' dx fs) ∧ Cls X.K C' ∧ NoAttr X.K C' f ∧ fs.lookup f = some v ∧ Q v H1) (by
    intro B F H x d fp R Q w hv hf hg k
    cases d <;> try exact hg.elim
    rename_i C' es
    obtain ⟨rfl, d, hl, hR⟩ := hg
    obtain ⟨ef, a, dx, fs, ev, ea, hk, it⟩ := hv.obj hm w
    obtain ⟨i, v, e1, e2, e3⟩ := lookup_some hk hl
    obtain ⟨v', e4, hv'⟩ := it.2 i d e3
    rw [e2] at e4
    cases e4
    exact ⟨a, C', dx, fs, v, ev, ea, c, nf, e1, k.val w hv' hR⟩) h
end
theorem ne_mem {l : List Addr} {a b : Addr} (h : b ∈ l) (h' : a ∉ l) : b ≠ a := fun z => by subst z; exact h' h
/-! ### what changes an object: it is taken out of its name, changed, and put back -/
section
variable {K : PySem.W.Frag} {B fp : List Addr} {Pn : List V} {Z0 F0 F H : Hp} {σ : L2.St} {ρ : Env} {n : Nat}
theorem StOk.put {v : V} {d : D} {f : List Addr} {i : Nat} (S : StOk K B Pn Z0 F0 F H σ ρ fp) (h : Own K F H n v d f) (ap : Apart B Z0 F fp f) (hi : i < ρ.length) (hv : σ[i]? = some (some v)) :
    ∃ fp', StOk K B Pn Z0 F0 F H σ (ρ.set i (some (n, d))) fp' := by
  have nd : (fp ++ f).Nodup := List.nodup_append.mpr ⟨S.nd, ap.2, fun a ha b hb e => by
    subst e
    exact (ap.1 a hb).2.2.2 ha⟩
  obtain ⟨fp', o', nd', sub⟩ := OwnE.set h S.own nd hi
  rw [set_self hv] at o'
  refine ⟨fp', S.wf, o', nd', fun a ha => ?_, S.z, S.zB, S.f, S.fr, S.pn⟩
  rcases sub a ha with z | z
  · exact S.out a z
  · obtain ⟨h1, h2, h3, _⟩ := ap.1 a z
    exact ⟨h1, h2, h3⟩
theorem WF.mut {a : Addr} {o : HO} (w : WF B F H) (hF : F a = none) (hB : a ∉ B) (ho : erO o = o) : WF B F (upd H a o) :=
  ⟨fun b u e => by
    have hb : b ≠ a := fun z => by rw [z, hF] at e; cases e
    obtain ⟨hB', x, ex, er⟩ := rdH_some (w.sub b u e)
    exact rdH_of hB' (by rw [upd_ne hb]; exact ex) er, fun b ob u hb e => by
    by_cases h : b = a
    · subst h
      rw [upd_same] at e
      have e' : o = .frz ob u := Option.some.inj e
      rw [e'] at ho
      have z : u = .frz ob u := ho
      have : sizeOf u = sizeOf (HO.frz ob u) := congrArg sizeOf z
      simp at this
    · rw [upd_ne h] at e; exact w.lock b ob u hb e, w.bag.keep fun b hb u h => by
    rw [upd_ne (ne_mem hb hB)]; exact h⟩
theorem StOk.mut {a : Addr} {o : HO} (S : StOk K B Pn Z0 F0 F H σ ρ fp) (ha : a ∉ fp) (hF : F a = none) (hB : a ∉ B) (hZ : Z0 a = none) (ho : erO o = o) : StOk K B Pn Z0 F0 F (upd H a o) σ ρ fp :=
  ⟨S.wf.mut hF hB ho, S.own.mono (fun _ _ h => h) fun b hb u e => by rw [upd_ne (ne_mem hb ha)]; exact e, S.nd, S.out, fun b u e => by
    rw [upd_ne (fun z => by rw [z, hZ] at e; cases e)]; exact S.z b u e, S.zB, S.f, S.fr, S.pn⟩
/-- the node at the top of an owned thing is changed: more may be owned then -/
theorem StOk.change {d : D} {i : Nat} {P : Addr → HO → List Addr → Prop} (S : StOk K B Pn Z0 F0 F H σ ρ fp) (e : slot ρ i = some (n + 1, d))
    (hd : ∀ v f, Own K F H (n + 1) v d f → ∃ a g o, v = .ref a ∧ f = a :: g ∧ H a = some o ∧ P a o g) :
    ∃ a g o, σ[i]? = some (some (.ref a)) ∧ H a = some o ∧ P a o g ∧ a ∉ g ∧ g.Nodup ∧ (∀ b ∈ a :: g, b ∈ fp) ∧ ∀ o' d' g' fc, erO o' = o' → Apart B Z0 F fp fc → (∀ b ∈ g', b ∈ g ∨ b ∈ fc) → g'.Nodup →
      Own K F (upd H a o') (n + 1) (.ref a) d' (a :: g') → ∃ fp', StOk K B Pn Z0 F0 F (upd H a o') σ (ρ.set i (some (n + 1, d'))) fp' := by
  obtain ⟨v, f, fp1, e1, e2, S1, ap1, sub⟩ := S.take e
  obtain ⟨a, g, o, rfl, rfl, ha, hP⟩ := hd v f e2
  obtain ⟨hag, hg⟩ := List.nodup_cons.mp ap1.2
  refine ⟨a, g, o, e1, ha, hP, hag, hg, fun b hb => sub b (List.mem_append_right _ hb), fun o' d' g' fc ho ap hs hn' ho' => ?_⟩
  obtain ⟨h1, h2, h3, h4⟩ := ap1.1 a List.mem_cons_self
  have S2 := S1.mut h4 h1 h2 h3 ho
  have hi : i < (ρ.set i none).length := by rw [List.length_set]; exact slot_lt e
  have hac : a ∉ fc := fun z => (ap.1 a z).2.2.2 (sub a (List.mem_append_right _ List.mem_cons_self))
  have ap' : Apart B Z0 F fp1 (a :: g') := by
    refine ⟨fun b hb => ?_, List.nodup_cons.mpr ⟨fun z => (hs a z).elim hag hac, hn'⟩⟩
    rcases List.mem_cons.mp hb with z | z
    · rw [z]; exact ⟨h1, h2, h3, h4⟩
    · rcases hs b z with q | q
      · exact ap1.1 b (List.mem_cons_of_mem _ q)
      · obtain ⟨k1, k2, k3, k4⟩ := ap.1 b q
        exact ⟨k1, k2, k3, fun r => k4 (sub b (List.mem_append_left _ r))⟩
  obtain ⟨fp', S3⟩ := S2.put (i := i) ho' ap' hi e1
  rw [List.set_set] at S3
  exact ⟨fp', S3⟩
theorem own_lst {ds : List D} : ∀ v f, Own K F H (n + 1) v (.lst ds) f → ∃ a g o, v = .ref a ∧ f = a :: g ∧ H a = some o ∧ ∃ vs, o = .lst vs ∧ OwnL (Own K F H n) vs ds g :=
  fun v f ⟨a, vs, g, e1, e2, e3, e4⟩ => ⟨a, g, .lst vs, e1, e3, e2, vs, rfl, e4⟩
theorem own_dK {es : List (Key × D)} : ∀ v f, Own K F H (n + 1) v (.dK es) f → ∃ a g o, v = .ref a ∧ f = a :: g ∧ H a = some o ∧ ∃ kvs, o = .dK kvs ∧ kvs.map (·.1) = es.map (·.1) ∧ OwnL (Own K F H n) (kvs.map (·.2)) (es.map (·.2)) g :=
  fun v f ⟨a, vs, g, e1, e2, e3, e4, e5⟩ => ⟨a, g, .dK vs, e1, e3, e2, vs, rfl, e4, e5⟩
theorem own_dT {es : List (List Key × D)} : ∀ v f, Own K F H (n + 1) v (.dT es) f → ∃ a g o, v = .ref a ∧ f = a :: g ∧ H a = some o ∧ ∃ kvs, o = .dT kvs ∧ kvs.map (·.1) = es.map (·.1) ∧ OwnL (Own K F H n) (kvs.map (·.2)) (es.map (·.2)) g :=
  fun v f ⟨a, vs, g, e1, e2, e3, e4, e5⟩ => ⟨a, g, .dT vs, e1, e3, e2, vs, rfl, e4, e5⟩
theorem own_obj {C : Addr} {es : List (Str × D)} : ∀ v f, Own K F H (n + 1) v (.obj C es) f → ∃ a g o, v = .ref a ∧ f = a :: g ∧ H a = some o ∧ ∃ dx fs, o = .ins C dx fs ∧ fs.map (·.1) = es.map (·.1) ∧ OwnL (Own K F H n) (fs.map (·.2)) (es.map (·.2)) g :=
  fun v f ⟨a, dx, vs, g, e1, e2, e3, e4, e5⟩ => ⟨a, g, .ins C dx vs, e1, e3, e2, dx, vs, rfl, e4, e5⟩
/-- what was owned stays so when another node changes -/
theorem OwnL.upd {vs : List V} {ds : List D} {g : List Addr} {a : Addr} {o : HO} (h : OwnL (Own K F H n) vs ds g) (ha : a ∉ g) : OwnL (Own K F (upd H a o) n) vs ds g :=
  h.imp fun v d f hf => Own.mono (fun _ _ h => h) fun b hb u e => by rw [upd_ne (ne_mem (hf b hb) ha)]; exact e
theorem Own.upd {v : V} {d : D} {g : List Addr} {a : Addr} {o : HO} (h : Own K F H n v d g) (ha : a ∉ g) : Own K F (upd H a o) n v d g :=
  Own.mono (fun _ _ h => h) (fun b hb u e => by rw [upd_ne (ne_mem hb ha)]; exact e) h
theorem OwnL.append {P : V → D → List Addr → Prop} : ∀ {vs ws : List V} {ds es : List D} {f g : List Addr}, OwnL P vs ds f → OwnL P ws es g → OwnL P (vs ++ ws) (ds ++ es) (f ++ g)
  | [], ws, [], es, f, g, h, k => by
    have e : f = [] := h
    rw [e]; exact k
  | v :: vs, ws, d :: ds, es, f, g, ⟨f1, f2, e, h, t⟩, k => ⟨f1, f2 ++ g, by rw [e, List.append_assoc], h, OwnL.append t k⟩
theorem OwnL.one {P : V → D → List Addr → Prop} {v : V} {d : D} {f : List Addr} (h : P v d f) : OwnL P [v] [d] f := ⟨f, [], (List.append_nil f).symm, h, rfl⟩
theorem OwnL.set {P : V → D → List Addr → Prop} {v : V} {d : D} {g : List Addr} (q : P v d g) : ∀ {vs : List V} {ds : List D} {f : List Addr} (i : Nat), OwnL P vs ds f → (f ++ g).Nodup → ∃ f', OwnL P (vs.set i v) (ds.set i d) f' ∧ (∀ a ∈ f', a ∈ f ∨ a ∈ g) ∧ f'.Nodup
  | [], [], f, i, h, nd => ⟨f, h, fun a ha => .inl ha, (List.nodup_append.mp nd).1⟩
  | v' :: vs, d' :: ds, f, 0, ⟨f1, f2, e, h, t⟩, nd => by
    subst e
    refine ⟨g ++ f2, ⟨g, f2, rfl, q, t⟩, fun a ha => ?_, ?_⟩
    · rcases List.mem_append.mp ha with z | z
      · exact .inr z
      · exact .inl (List.mem_append_right _ z)
    · rw [List.append_assoc] at nd
      exact nd_comm (List.nodup_append.mp nd).2.1
  | v' :: vs, d' :: ds, f, i + 1, ⟨f1, f2, e, h, t⟩, nd => by
    subst e
    rw [List.append_assoc] at nd
    obtain ⟨n1, n2, n3⟩ := List.nodup_append.mp nd
    obtain ⟨f', h', sub, nd'⟩ := OwnL.set q i t n2
    refine ⟨f1 ++ f', ⟨f1, f', rfl, h, h'⟩, fun a ha => ?_, List.nodup_append.mpr ⟨n1, nd', fun a ha b hb e => ?_⟩⟩
    · rcases List.mem_append.mp ha with z | z
      · exact .inl (List.mem_append_left _ z)
      · rcases sub a z with z | z
        · exact .inl (List.mem_append_right _ z)
        · exact .inr z
    · subst e
      rcases sub a hb with z | z
      · exact n3 a ha a (List.mem_append_left _ z) rfl
      · exact n3 a ha a (List.mem_append_right _ z) rfl
/-- some are left out -/
theorem OwnL.erase {P : V → D → List Addr → Prop} : ∀ {vs : List V} {ds : List D} {f : List Addr} (i : Nat), OwnL P vs ds f → f.Nodup → ∃ f', OwnL P (vs.eraseIdx i) (ds.eraseIdx i) f' ∧ (∀ a ∈ f', a ∈ f) ∧ f'.Nodup ∧
      ∀ v, vs[i]? = some v → ∃ d g, ds[i]? = some d ∧ P v d g ∧ (f' ++ g).Nodup ∧ ∀ a ∈ g, a ∈ f
  | [], [], f, i, h, nd => ⟨f, h, fun a ha => ha, nd, fun v e => by simp at e⟩
  | v' :: vs, d' :: ds, f, 0, ⟨f1, f2, e, h, t⟩, nd => by
    subst e
    obtain ⟨n1, n2, n3⟩ := List.nodup_append.mp nd
    refine ⟨f2, t, fun a ha => List.mem_append_right _ ha, n2, fun v e => ⟨d', f1, rfl, ?_, nd_comm nd, fun a ha => List.mem_append_left _ ha⟩⟩
    have e' : v' = v := Option.some.inj e
    subst e'; exact h
  | v' :: vs, d' :: ds, f, i + 1, ⟨f1, f2, e, h, t⟩, nd => by
    subst e
    obtain ⟨n1, n2, n3⟩ := List.nodup_append.mp nd
    obtain ⟨f', h', sub, nd', k⟩ := OwnL.erase i t n2
    refine ⟨f1 ++ f', ⟨f1, f', rfl, h, h'⟩, fun a ha => ?_, List.nodup_append.mpr ⟨n1, nd', fun a ha b hb e => n3 a ha b (sub b hb) e⟩, fun v e => ?_⟩
    · rcases List.mem_append.mp ha with z | z
      · exact List.mem_append_left _ z
      · exact List.mem_append_right _ (sub a z)
    · obtain ⟨d, g, e1, e2, e3, e4⟩ := k v e
      refine ⟨d, g, e1, e2, ?_, fun a ha => List.mem_append_right _ (e4 a ha)⟩
      rw [List.append_assoc]
      exact List.nodup_append.mpr ⟨n1, e3, fun a ha b hb e => n3 a ha b ((List.mem_append.mp hb).elim (sub b) (e4 b)) e⟩
end
end GK

namespace GK
open PySem PySem.Spec PyProof.Rows L2

/-! ### methods that change a name's own list -/
/-- a name's own list, and what is done with it -/
def ownLst (ρ : Env) (i n : Nat) (k : List D → Prop) : Prop := match slot ρ i with
  | some (m, .lst ds) => m = n + 1 ∧ k ds
  | _ => False
theorem ownLst.inv {ρ : Env} {i n : Nat} {k : List D → Prop} (h : ownLst ρ i n k) : ∃ ds, slot ρ i = some (n + 1, .lst ds) ∧ k ds := by
  unfold ownLst at h
  split at h
  · rename_i m ds e
    obtain ⟨rfl, h⟩ := h
    exact ⟨ds, e, h⟩
  · exact h.elim
def ownDK (ρ : Env) (i n : Nat) (k : List (Key × D) → Prop) : Prop := match slot ρ i with
  | some (m, .dK ds) => m = n + 1 ∧ k ds
  | _ => False
theorem ownDK.inv {ρ : Env} {i n : Nat} {k : List (Key × D) → Prop} (h : ownDK ρ i n k) : ∃ ds, slot ρ i = some (n + 1, .dK ds) ∧ k ds := by
  unfold ownDK at h
  split at h
  · rename_i m ds e
    obtain ⟨rfl, h⟩ := h
    exact ⟨ds, e, h⟩
  · exact h.elim
def ownDT (ρ : Env) (i n : Nat) (k : List (List Key × D) → Prop) : Prop := match slot ρ i with
  | some (m, .dT ds) => m = n + 1 ∧ k ds
  | _ => False
theorem ownDT.inv {ρ : Env} {i n : Nat} {k : List (List Key × D) → Prop} (h : ownDT ρ i n k) : ∃ ds, slot ρ i = some (n + 1, .dT ds) ∧ k ds := by
  unfold ownDT at h
  split at h
  · rename_i m ds e
    obtain ⟨rfl, h⟩ := h
    exact ⟨ds, e, h⟩
  · exact h.elim
def ownObj (C : Addr) (ρ : Env) (i n : Nat) (k : List (Str × D) → Prop) : Prop := match slot ρ i with
  | some (m, .obj C' ds) => m = n + 1 ∧ C' = C ∧ k ds
  | _ => False
theorem ownObj.inv {C : Addr} {ρ : Env} {i n : Nat} {k : List (Str × D) → Prop} (h : ownObj C ρ i n k) : ∃ ds, slot ρ i = some (n + 1, .obj C ds) ∧ k ds := by
  unfold ownObj at h
  split at h
  · rename_i m C' ds e
    obtain ⟨rfl, rfl, h⟩ := h
    exact ⟨ds, e, h⟩
  · exact h.elim
section
variable {K : PySem.W.Frag} {B fp : List Addr} {Pn : List V} {Z0 F0 F H : Hp} {σ : L2.St} {ρ : Env} {n i : Nat}
/-- the own list at a name -/
theorem StOk.lst {ds : List D} (S : StOk K B Pn Z0 F0 F H σ ρ fp) (e : slot ρ i = some (n + 1, .lst ds)) :
    ∃ a vs g, σ[i]? = some (some (.ref a)) ∧ H a = some (.lst vs) ∧ OwnL (Own K F H n) vs ds g ∧ a ∉ g ∧ g.Nodup ∧ (∀ b ∈ a :: g, b ∈ fp) ∧ ∀ vs' ds' g' fc, Apart B Z0 F fp fc → (∀ b ∈ g', b ∈ g ∨ b ∈ fc) → g'.Nodup → OwnL (Own K F H n) vs' ds' g' →
      ∃ fp', StOk K B Pn Z0 F0 F (upd H a (.lst vs')) σ (ρ.set i (some (n + 1, .lst ds'))) fp' := by
  obtain ⟨a, g, o, h1, h2, ⟨vs, rfl, h3⟩, h4, h5, h6, k⟩ := S.change e own_lst
  refine ⟨a, vs, g, h1, h2, h3, h4, h5, h6, fun vs' ds' g' fc ap hs nd ho => k (.lst vs') _ g' fc rfl ap hs nd ⟨a, vs', g', rfl, upd_same, rfl, ho.upd fun z => (hs a z).elim h4 fun z => (ap.1 a z).2.2.2 (h6 a List.mem_cons_self)⟩⟩
theorem StOk.dK {ds : List (Key × D)} (S : StOk K B Pn Z0 F0 F H σ ρ fp) (e : slot ρ i = some (n + 1, .dK ds)) :
    ∃ a kvs g, σ[i]? = some (some (.ref a)) ∧ H a = some (.dK kvs) ∧ kvs.map (·.1) = ds.map (·.1) ∧ OwnL (Own K F H n) (kvs.map (·.2)) (ds.map (·.2)) g ∧ a ∉ g ∧ g.Nodup ∧ (∀ b ∈ a :: g, b ∈ fp) ∧ ∀ (kvs' : List (Key × V)) (ds' : List (Key × D)) g' fc, Apart B Z0 F fp fc → (∀ b ∈ g', b ∈ g ∨ b ∈ fc) → g'.Nodup → kvs'.map (·.1) = ds'.map (·.1) → OwnL (Own K F H n) (kvs'.map (·.2)) (ds'.map (·.2)) g' →
      ∃ fp', StOk K B Pn Z0 F0 F (upd H a (.dK kvs')) σ (ρ.set i (some (n + 1, .dK ds'))) fp' := by
  obtain ⟨a, g, o, h1, h2, ⟨vs, rfl, hk, h3⟩, h4, h5, h6, k⟩ := S.change e own_dK
  refine ⟨a, vs, g, h1, h2, hk, h3, h4, h5, h6, fun vs' ds' g' fc ap hs nd hk' ho => k (.dK vs') _ g' fc rfl ap hs nd ⟨a, vs', g', rfl, upd_same, rfl, hk', ho.upd fun z => (hs a z).elim h4 fun z => (ap.1 a z).2.2.2 (h6 a List.mem_cons_self)⟩⟩
theorem StOk.dT {ds : List (List Key × D)} (S : StOk K B Pn Z0 F0 F H σ ρ fp) (e : slot ρ i = some (n + 1, .dT ds)) :
    ∃ a kvs g, σ[i]? = some (some (.ref a)) ∧ H a = some (.dT kvs) ∧ kvs.map (·.1) = ds.map (·.1) ∧ OwnL (Own K F H n) (kvs.map (·.2)) (ds.map (·.2)) g ∧ a ∉ g ∧ g.Nodup ∧ (∀ b ∈ a :: g, b ∈ fp) ∧ ∀ (kvs' : List (List Key × V)) (ds' : List (List Key × D)) g' fc, Apart B Z0 F fp fc → (∀ b ∈ g', b ∈ g ∨ b ∈ fc) → g'.Nodup → kvs'.map (·.1) = ds'.map (·.1) → OwnL (Own K F H n) (kvs'.map (·.2)) (ds'.map (·.2)) g' →
      ∃ fp', StOk K B Pn Z0 F0 F (upd H a (.dT kvs')) σ (ρ.set i (some (n + 1, .dT ds'))) fp' := by
  obtain ⟨a, g, o, h1, h2, ⟨vs, rfl, hk, h3⟩, h4, h5, h6, k⟩ := S.change e own_dT
  refine ⟨a, vs, g, h1, h2, hk, h3, h4, h5, h6, fun vs' ds' g' fc ap hs nd hk' ho => k (.dT vs') _ g' fc rfl ap hs nd ⟨a, vs', g', rfl, upd_same, rfl, hk', ho.upd fun z => (hs a z).elim h4 fun z => (ap.1 a z).2.2.2 (h6 a List.mem_cons_self)⟩⟩
theorem StOk.obj {C : Addr} {ds : List (Str × D)} (S : StOk K B Pn Z0 F0 F H σ ρ fp) (e : slot ρ i = some (n + 1, .obj C ds)) :
    ∃ a dx kvs g, σ[i]? = some (some (.ref a)) ∧ H a = some (.ins C dx kvs) ∧ kvs.map (·.1) = ds.map (·.1) ∧ OwnL (Own K F H n) (kvs.map (·.2)) (ds.map (·.2)) g ∧ a ∉ g ∧ g.Nodup ∧ (∀ b ∈ a :: g, b ∈ fp) ∧ ∀ (kvs' : List (Str × V)) (ds' : List (Str × D)) g' fc, Apart B Z0 F fp fc → (∀ b ∈ g', b ∈ g ∨ b ∈ fc) → g'.Nodup → kvs'.map (·.1) = ds'.map (·.1) → OwnL (Own K F H n) (kvs'.map (·.2)) (ds'.map (·.2)) g' →
      ∃ fp', StOk K B Pn Z0 F0 F (upd H a (.ins C dx kvs')) σ (ρ.set i (some (n + 1, .obj C ds'))) fp' := by
  obtain ⟨a, g, o, h1, h2, ⟨dx, vs, rfl, hk, h3⟩, h4, h5, h6, k⟩ := S.change e own_obj
  refine ⟨a, dx, vs, g, h1, h2, hk, h3, h4, h5, h6, fun vs' ds' g' fc ap hs nd hk' ho => k (.ins C dx vs') _ g' fc rfl ap hs nd ⟨a, dx, vs', g', rfl, upd_same, rfl, hk', ho.upd fun z => (hs a z).elim h4 fun z => (ap.1 a z).2.2.2 (h6 a List.mem_cons_self)⟩⟩
theorem Apart.nil : Apart B Z0 F fp [] := ⟨fun a h => (by cases h), List.nodup_nil⟩
theorem nd_of {g f : List Addr} (h1 : g.Nodup) (h2 : f.Nodup) (h3 : ∀ a ∈ f, a ∉ g) : (g ++ f).Nodup := List.nodup_append.mpr ⟨h1, h2, fun a ha b hb e => by subst e; exact h3 a hb ha⟩
end
/-! the same by a list of data -/
def putD {κ : Type} [DecidableEq κ] (es : List (κ × D)) (k : κ) (d : D) : List (κ × D) :=
  if (es.any fun e => decide (e.1 = k)) = true then es.map (fun e => if e.1 = k then (e.1, d) else e) else es ++ [(k, d)]
def getD' {κ : Type} [DecidableEq κ] (es : List (κ × D)) (k : κ) : Option D := (es.find? fun e => decide (e.1 = k)).map (·.2)
section
variable {κ : Type} [DecidableEq κ] {kvs : List (κ × V)} {es : List (κ × D)}
theorem any_keys : ∀ {kvs : List (κ × V)} {es : List (κ × D)}, kvs.map (·.1) = es.map (·.1) → ∀ k : κ, (kvs.any fun e => decide (e.1 = k)) = es.any fun e => decide (e.1 = k)
  | [], [], _, _ => rfl
  | p :: r, q :: s, h, k => by
    rw [List.map_cons, List.map_cons] at h
    injection h with h1 h2
    rw [List.any_cons, List.any_cons, any_keys h2 k, h1]
  | [], _ :: _, h, _ => by cases h
  | _ :: _, [], h, _ => by cases h
theorem val_get {k : κ} : ∀ {kvs : List (κ × V)} {es : List (κ × D)}, kvs.map (·.1) = es.map (·.1) →
    (valV kvs k = none ∧ getD' es k = none) ∨ ∃ (i : Nat) (v : V) (d : D), valV kvs k = some v ∧ getD' es k = some d ∧ (kvs.map (·.2))[i]? = some v ∧ (es.map (·.2))[i]? = some d
  | [], [], _ => .inl ⟨rfl, rfl⟩
  | p :: r, q :: s, h => by
    rw [List.map_cons, List.map_cons] at h
    injection h with h1 h2
    by_cases e : p.1 = k
    · right
      refine ⟨0, p.2, q.2, valV_pos e, ?_, rfl, rfl⟩
      have e' : q.1 = k := h1 ▸ e
      simp [getD', List.find?_cons, e']
    · have e' : ¬ q.1 = k := h1 ▸ e
      have g : getD' (q :: s) k = getD' s k := by simp [getD', List.find?_cons, e']
      rw [valV_neg e, g]
      rcases val_get (k := k) h2 with ⟨a, b⟩ | ⟨i, v, d, a, b, c, c'⟩
      · exact .inl ⟨a, b⟩
      · exact .inr ⟨i + 1, v, d, a, b, by simpa using c, by simpa using c'⟩
  | [], _ :: _, h => by cases h
  | _ :: _, [], h => by cases h
theorem put_keys {v : V} {d : D} {k : κ} (h : kvs.map (·.1) = es.map (·.1)) : (putK kvs k v).map (·.1) = (putD es k d).map (·.1) := by
  unfold putK putD
  rw [any_keys h k]
  split
  · rw [List.map_map, List.map_map]
    have e1 : (fun x : κ × V => x.1) ∘ (fun kv : κ × V => if kv.1 = k then (kv.1, v) else kv) = fun x => x.1 := by
      funext x; show (if x.1 = k then (x.1, v) else x).1 = x.1; split <;> rfl
    have e2 : (fun x : κ × D => x.1) ∘ (fun kv : κ × D => if kv.1 = k then (kv.1, d) else kv) = fun x => x.1 := by
      funext x; show (if x.1 = k then (x.1, d) else x).1 = x.1; split <;> rfl
    rw [e1, e2]; exact h
  · rw [List.map_append, List.map_append, h]; rfl
theorem put_rl {K : PySem.W.Frag} {F : Hp} {v : V} {d : D} {k : κ} (q : R K F v d) (hk : kvs.map (·.1) = es.map (·.1)) (h : RL K F (kvs.map (·.2)) (es.map (·.2))) : RL K F ((putK kvs k v).map (·.2)) ((putD es k d).map (·.2)) := by
  unfold putK putD
  rw [any_keys hk k]
  by_cases c : (es.any fun e => decide (e.1 = k)) = true
  · rw [if_pos c, if_pos c]
    clear c
    induction kvs generalizing es with
    | nil =>
      cases es with
      | nil => exact .nil
      | cons q s => cases hk
    | cons p r ih =>
      cases es with
      | nil => cases hk
      | cons p' s =>
        rw [List.map_cons, List.map_cons] at hk
        injection hk with h1 h2
        rw [List.map_cons, List.map_cons] at h
        simp only [List.map_cons]
        cases h with
        | cons h t =>
          refine .cons ?_ (ih h2 t)
          rw [h1]
          by_cases e : p'.1 = k
          · rw [if_pos e, if_pos e]; exact q
          · rw [if_neg e, if_neg e]; exact h
  · rw [if_neg c, if_neg c, List.map_append, List.map_append]
    exact h.append (.cons q .nil)
end

/-! ### the statements and methods -/
structure NameOk (X : Cx) (i : Nat) (x : Str) : Prop where
  hN : X.N[i]? = some x
  hv : Vis X.env.scope x
  hd : (x == ("__debug__" : Str)) = false
  hcd : (x == ("__classdict__" : Str)) = false
structure BmOk (X : Cx) (o : Expr) (name : Str) (apos : Pos) (e : Expr) (es : List Expr) (cpos : Pos) : Prop where
  hbase : attributeBase o name X.env (eval o X.env) = eval o X.env
  hfew : ((backTo cpos (starEach (e :: es) X.env)).all (fun x => !x.1) && (backToKw cpos (keywordEach [] X.env)).all (fun x => x.1.isSome)
      && decide ((e :: es).length + ([] : List Keyword).length + (if ([] : List Keyword).isEmpty then 0 else 1) < 30)) = true
  hline : (apos.endLine == cpos.line) = true
  hs : starEach (e :: es) X.env = (false, eval e X.env) :: starEach es X.env
  hplain : (backTo cpos (starEach es X.env)).any (·.1) = false
structure Bm0Ok (X : Cx) (o : Expr) (name : Str) (apos cpos : Pos) : Prop where
  hbase : attributeBase o name X.env (eval o X.env) = eval o X.env
  hline : (apos.endLine == cpos.line) = true
section
variable {X : Cx} {e e2 : Expr} {pin n i : Nat} {m mr : Mode} {f f2 : FM} {fe : FE} {x : Str} {pos p apos cpos : Pos} {es : List Expr}
/-- x.append(e) -/
theorem dm_append (i n : Nat) (he : DM X B e pin (.own n) f) (hN : NameOk X i x := by exact ⟨rfl, by first | exact Or.inl rfl | exact Or.inr (Or.inl rfl) | exact Or.inr (Or.inr rfl), by decide, by decide⟩) (hb : BmOk X (.Name x p) "append" apos e [] cpos := by exact ⟨rfl, rfl, rfl, rfl, rfl⟩) :
    DM X B (.Call (.Attribute (.Name x p) "append" apos) [e] [] cpos) pin m (fun ρ R => ownLst ρ i n (fun _ => True) ∧ f ρ fun d ρ' => ownLst ρ' i n fun ds => ds.length < sizeLine ∧ R .non (ρ'.set i (some (n + 1, .lst (ds ++ [d]))))) :=
  PE.imp (pe_bm PySem.F.plainAttrs_list PySem.F.slot_list_append PySem.F.type_list_append mt_append (pe_var hN.1 hN.2 hN.3 hN.4) (pa_cons he pa_nil hb.4) hb.1 hb.2 hb.3 hb.4 hb.5) fun σ H Q ⟨Pn, Z0, F0, F, ρ, fp, R, hpl, S, ⟨h0, hf⟩, k⟩ => by
    obtain ⟨ds0, e0, _⟩ := h0.inv
    obtain ⟨a, vs, g, h1, h2, h3, h4, h5, h6, kk⟩ := S.lst e0
    refine ⟨_, h1, .inl ⟨rfl, _, SqL.of h2⟩, Pn, Z0, F0, F, ρ, fp, _, hpl, S, hf, fun F' H' ρ' fp' v d f' S' hv ap hR => ?_⟩
    obtain ⟨ds, e1, hz, hR⟩ := hR.inv
    obtain ⟨a', vs', g', h1', h2', h3', h4', h5', h6', kk'⟩ := S'.lst e1
    rw [h1] at h1'
    cases h1'
    obtain ⟨fp2, S2⟩ := kk' (vs' ++ [v]) (ds ++ [d]) (g' ++ f') f' ap (fun b hb => List.mem_append.mp hb) (nd_of h5' ap.2 fun b hb z => (ap.1 b hb).2.2.2 (h6' b (List.mem_cons_of_mem _ z))) (h3'.append (OwnL.one hv))
    exact ⟨a, vs', v, rfl, rfl, h2', by rw [h3'.len]; exact hz, k F' _ _ fp2 .non .non [] S2 (Val.atom rfl fun _ => .non) .nil hR⟩
/-- x[j] = e -/
theorem ds_setL (i n : Nat) (he : DM X B e pin (.own n) f) (hj : DE X B e2 (.own 0) fe) (hN : NameOk X i x := by exact ⟨rfl, by first | exact Or.inl rfl | exact Or.inr (Or.inl rfl) | exact Or.inr (Or.inr rfl), by decide, by decide⟩)
    (ha : ∀ v, assign (.Subscript (.Name x p) e2 apos) X.env v = (do
      let ov ← holding [v] (eval (.Name x p) X.env)
      let iv ← holding [v, ov] (eval e2 X.env)
      standAt apos
      holding [v, ov, iv] (setItem ov iv v)
      release [v, ov, iv] []) := by intro _; rfl)
    (hs : swapsWithSole [.Subscript (.Name x p) e2 apos] e pos.line X.env = pure false := by rfl) (hw : swappedStores [.Subscript (.Name x p) e2 apos] e X.env = pure none := by rfl)
    (h1 : (assignEach [.Subscript (.Name x p) e2 apos] X.env).map (·.2) = [assign (.Subscript (.Name x p) e2 apos) X.env] := by rfl) :
    DS X B (.Assign [.Subscript (.Name x p) e2 apos] e pos) pin mr (fun E ρ => f ρ fun d ρ' => ownLst ρ' i n (fun _ => True) ∧ fe ρ' fun j => match j with
      | .int j => ownLst ρ' i n fun ds => ∃ k, ixN ds.length j = some k ∧ E.nx (ρ'.set i (some (n + 1, .lst (ds.set k d))))
      | _ => False) :=
  PS.imp (ps_asg he (pg_sub (pe_var hN.1 hN.2 hN.3 hN.4) hj set_list ha) hs hw h1) fun Dn σ H ⟨Pn, Z0, F0, F, ρ, fp, E, hpl, S, hf, L⟩ => by
    refine ⟨Pn, Z0, F0, F, ρ, fp, _, hpl, S, hf, fun F' H' ρ' fp' v d f' S' hv ap ⟨h0, hR⟩ => ?_⟩
    obtain ⟨ds0, e0, _⟩ := h0.inv
    obtain ⟨a, vs, g, h1, h2, h3, h4, h5, h6, kk⟩ := S'.lst e0
    refine ⟨_, h1, F', ρ', fp', _, S'.base, hR, fun F2 H2 w j fj s2 hw oj nj hj => ?_⟩
    have S2 := S'.step s2 fun a h => (by cases h)
    cases j <;> try exact hj.elim
    rename_i j
    obtain ⟨rfl, rfl⟩ := hw.int
    obtain ⟨ds, e1, kx, hx, hR⟩ := ownLst.inv hj
    obtain ⟨a', vs', g', h1', h2', h3', h4', h5', h6', kk'⟩ := S2.lst e1
    rw [h1] at h1'
    cases h1'
    have ap2 : Apart B Z0 F2 fp' f' := ⟨fun b hb => by
      obtain ⟨q1, q2, q3, q4⟩ := ap.1 b hb
      obtain ⟨o, eo, mu⟩ := hv.there b hb
      exact ⟨s2.out eo mu q2 q1 (fun z => (by cases z)), q2, q3, q4⟩, ap.2⟩
    have hv2 : Own X.K F2 H2 n v d f' := hv.step s2 fun b hb => (ap.1 b hb).2.1
    obtain ⟨g2, o2, sub, nd⟩ := OwnL.set hv2 kx h3' (nd_of h5' ap.2 fun b hb z => (ap.1 b hb).2.2.2 (h6' b (List.mem_cons_of_mem _ z)))
    obtain ⟨fp2, S3⟩ := kk' (vs'.set kx v) (ds.set kx d) g2 f' ap2 sub nd o2
    exact ⟨a, vs', j, kx, rfl, rfl, h2', by rw [h3'.len]; exact hx, L.nx F2 _ _ _ fp2 S3 hR⟩
/-- the key that a value is -/
def keyOf : D → Option Key
  | .int i => some (.inl i)
  | .str s => some (.inr s)
  | _ => none
def keysOf : List D → Option (List Key)
  | [] => some []
  | d :: ds => match keyOf d, keysOf ds with
    | some k, some ks => some (k :: ks)
    | _, _ => none
def keyT : D → Option (List Key)
  | .tup ds => keysOf ds
  | _ => none
theorem keyOf_R {K : PySem.W.Frag} {G : Hp} {d : D} {v : V} {k : Key} (h : keyOf d = some k) (r : R K G v d) : v = kV k := by
  cases d <;> try (cases h; done)
  · cases h; cases r; rfl
  · cases h; cases r; rfl
theorem keysOf_R {K : PySem.W.Frag} {G : Hp} : ∀ {ds : List D} {vs : List V} {ks : List Key}, keysOf ds = some ks → RL K G vs ds → vs = ks.map kV
  | [], _, ks, h, .nil => by cases h; rfl
  | d :: ds, _, ks, h, .cons r t => by
    unfold keysOf at h
    split at h
    · rename_i k' ks' h1 h2
      cases h
      rw [List.map_cons, keyOf_R h1 r, keysOf_R h2 t]
    · cases h
/-- d[k] = e, the keys ints or texts, what is kept may be read -/
theorem ds_putK (i : Nat) (hu : X.A.units + 1 < cLine) (he : DM X B e pin (.own 0) f) (hj : DE X B e2 (.own 0) fe) (hN : NameOk X i x := by exact ⟨rfl, by first | exact Or.inl rfl | exact Or.inr (Or.inl rfl) | exact Or.inr (Or.inr rfl), by decide, by decide⟩) (hs : swapsWith e (some (.Subscript (.Name x p) e2 apos)) pos.line X.env = pure false := by rfl) :
    DS X B (.Assign [.Subscript (.Name x p) e2 apos] e pos) pin mr (fun E ρ => f ρ fun d ρ' => ownDK ρ' i 0 (fun _ => True) ∧ fe ρ' fun j => ∃ k, keyOf j = some k ∧ ownDK ρ' i 0 fun ds => ds.length < sizeLine ∧ E.nx (ρ'.set i (some (1, .dK (putD ds k d))))) :=
  PS.imp (ps_dput hu (pe_var hN.1 hN.2 hN.3 hN.4) hj he hs) fun Dn σ H ⟨Pn, Z0, F0, F, ρ, fp, E, hpl, S, hf, L⟩ => by
    refine ⟨Pn, Z0, F0, F, ρ, fp, _, hpl, S, hf, fun F' H' ρ' fp' v d f' S' hv ap ⟨h0, hR⟩ => ?_⟩
    obtain ⟨ds0, e0, _⟩ := h0.inv
    obtain ⟨a, vs, g, h1, h2, hk, h3, h4, h5, h6, kk⟩ := S'.dK e0
    refine ⟨_, h1, F', ρ', fp', _, S'.base, hR, fun F2 H2 w j fj s2 hw oj nj hj => ?_⟩
    have S2 := S'.step s2 fun a h => (by cases h)
    obtain ⟨k, ek, hj⟩ := hj
    obtain ⟨ds, e1, hz, hR⟩ := hj.inv
    obtain ⟨a', vs', g', h1', h2', hk', h3', h4', h5', h6', kk'⟩ := S2.dK e1
    rw [h1] at h1'
    cases h1'
    obtain ⟨hv0, rfl⟩ := (show Own X.K F' H' 0 v d f' from hv)
    obtain ⟨fp2, S3⟩ := kk' (putK vs' k v) (putD ds k d) [] [] .nil (fun b h => (by cases h)) List.nodup_nil (put_keys hk') (OwnL.zero (put_rl (R.mono s2.fs hv0) hk' h3'.toRL0))
    have hlen : vs'.length = ds.length := by have := congrArg List.length hk'; simpa using this
    have ew : w = kV k := keyOf_R ek (hw.1)
    exact ⟨a, _, rfl, .inl ⟨vs', k, h2', ew, by rw [hlen]; exact hz, rfl⟩, L.nx F2 _ _ _ fp2 S3 hR⟩
/-- .. the keys tuples -/
theorem ds_putT (i : Nat) (hu : X.A.units + 1 < cLine) (he : DM X B e pin (.own 0) f) (hj : DE X B e2 (.own 0) fe) (hN : NameOk X i x := by exact ⟨rfl, by first | exact Or.inl rfl | exact Or.inr (Or.inl rfl) | exact Or.inr (Or.inr rfl), by decide, by decide⟩) (hs : swapsWith e (some (.Subscript (.Name x p) e2 apos)) pos.line X.env = pure false := by rfl) :
    DS X B (.Assign [.Subscript (.Name x p) e2 apos] e pos) pin mr (fun E ρ => f ρ fun d ρ' => ownDT ρ' i 0 (fun _ => True) ∧ fe ρ' fun j => ∃ k, keyT j = some k ∧ ownDT ρ' i 0 fun ds => ds.length < sizeLine ∧ E.nx (ρ'.set i (some (1, .dT (putD ds k d))))) :=
  PS.imp (ps_dput hu (pe_var hN.1 hN.2 hN.3 hN.4) hj he hs) fun Dn σ H ⟨Pn, Z0, F0, F, ρ, fp, E, hpl, S, hf, L⟩ => by
    refine ⟨Pn, Z0, F0, F, ρ, fp, _, hpl, S, hf, fun F' H' ρ' fp' v d f' S' hv ap ⟨h0, hR⟩ => ?_⟩
    obtain ⟨ds0, e0, _⟩ := h0.inv
    obtain ⟨a, vs, g, h1, h2, hk, h3, h4, h5, h6, kk⟩ := S'.dT e0
    refine ⟨_, h1, F', ρ', fp', _, S'.base, hR, fun F2 H2 w j fj s2 hw oj nj hj => ?_⟩
    have S2 := S'.step s2 fun a h => (by cases h)
    obtain ⟨k, ek, hj⟩ := hj
    obtain ⟨ds, e1, hz, hR⟩ := hj.inv
    obtain ⟨a', vs', g', h1', h2', hk', h3', h4', h5', h6', kk'⟩ := S2.dT e1
    rw [h1] at h1'
    cases h1'
    obtain ⟨hv0, rfl⟩ := (show Own X.K F' H' 0 v d f' from hv)
    obtain ⟨fp2, S3⟩ := kk' (putK vs' k v) (putD ds k d) [] [] .nil (fun b h => (by cases h)) List.nodup_nil (put_keys hk') (OwnL.zero (put_rl (R.mono s2.fs hv0) hk' h3'.toRL0))
    have hlen : vs'.length = ds.length := by have := congrArg List.length hk'; simpa using this
    cases j <;> try (cases ek; done)
    rename_i js
    obtain ⟨ta, ws, rfl, ht, hrl⟩ := (hw.1 : R X.K F2 w (.tup js)).tupI
    have ew : ws = k.map kV := keysOf_R ek hrl
    subst ew
    exact ⟨a, _, rfl, .inr ⟨vs', k, ta, h2', rfl, tup_of S2.wf (S2.wf.sub _ _ ht), by rw [hlen]; exact hz, rfl⟩, L.nx F2 _ _ _ fp2 S3 hR⟩
end
end GK

namespace GK
open PySem PySem.Spec PyProof.Rows L2

/-! ### a method that changes its own object; __init__ -/
/-- wp of the object, of the arguments and of what is wanted of the value and of the object behind it -/
abbrev FSpecM := D → List D → (D → D → Prop) → Prop
/-- what stands, but for what the object owns, is kept -/
structure StepM (B f : List Addr) (F H F' H' : Hp) : Prop where
  same : ∀ a o, a ∉ B → a ∉ f → H a = some o → H' a = some o
  fs : Same F F'
  fresh : ∀ a u, F' a = some u → F a = some u ∨ H a = none ∨ isTup u ∨ a ∈ f
  wf : WF B F' H'
def spM (K : PySem.W.Frag) (n : Nat) (m : Mode) (W : FSpecM) : Sp := fun vs H Q _ => ∃ B F v ws s ds f R, vs = v :: ws ∧ WF B F H ∧ Own K F H n v s f ∧ Fp B F f ∧ RL K F ws ds ∧ W s ds R ∧
  ∀ F' H' r d fr s' f', StepM B f F H F' H' → Own K F' H' n v s' f' → Val K m B F' H' r d fr → (∀ a ∈ f' ++ fr, (a ∈ f ∨ H a = none) ∧ F' a = none ∧ a ∉ B) → (f' ++ fr).Nodup → R d s' → Q r H'
abbrev DEnds.meth (n : Nat) (R : D → D → Prop) : DEnds := { nx := fun ρ => ∃ s, slot ρ 0 = some (n, s) ∧ R .non s, rt := fun d ρ => ∃ s, slot ρ 0 = some (n, s) ∧ R d s }
section
variable {P : Program} {w : World} {K : PySem.W.Frag} {mg : Str → Option Value} {base : Heap}
theorem StOk.stepM {B : List Addr} {Pn : List V} {F H : Hp} {σ : L2.St} {ρ : Env} {fp : List Addr} {F1 H1 : Hp} {f : List Addr} (T : StOk K B Pn (prot B f H1) F1 F H σ ρ fp) : StepM B f F1 H1 F H :=
  ⟨fun a o hb hf e => T.z a o (by rw [prot_out hf hb]; exact e), T.f, fun a u e => by
    rcases T.fr a u e with z | z | z
    · exact .inl z
    · by_cases hb : a ∈ B
      · have := T.wf.outB hb
        rw [this] at e; cases e
      · by_cases hf : a ∈ f
        · exact .inr (.inr (.inr hf))
        · rw [prot_out hf hb] at z; exact .inr (.inl z)
    · exact .inr (.inr (.inl z)), T.wf⟩
theorem Fun_okM {x qual : Str} {st : Stmt} {fa : Addr} {fd : FuncData} {N ps : List Str} {k n : Nat} {m : Mode} {W : FSpecM} (F : Fun K x qual st fa fd) (S : FnScope N ps (defScope st)) (len : ∀ s ds R, W s ds R → ds.length + 1 = ps.length)
    (hbody : ∀ (B : List Addr) (cdv : Value) (A : Around) (outer : List PySem.Env) (s : Shared) (H : Hp) (E : XK), Room k (A.deeper (envOfC qual (defScope st) s.heap.objs.size fa cdv)) →
      ∃ g, DSs (cxOf CX0 P w K mg base N qual (defScope st) fa cdv A outer s H E).nox B (defBody st) 1 m g ∧ ∀ s ds R, W s ds R → g (DEnds.meth n R) (some (n, s) :: (envOf ds ++ List.replicate (N.length - (ds.length + 1)) none))) : FnOk P w K mg base CX0 (k + 1) fa fd ps (spM K n m W) := by
  refine F.ok S (fun vs H Q E ⟨B, F, v, ws, s, ds, f, R, e, w, o, a, r, hW, k⟩ => by rw [e, List.length_cons, r.length]; exact len s ds R hW) fun cdv A outer sh H vs Q E hr ⟨B, F, v, ws, s, ds, f, R, ev, w, ho, ⟨ha, hn⟩, r, hW, k⟩ => ?_
  obtain ⟨g, hg, hq⟩ := hbody B cdv A outer sh H E hr
  subst ev
  refine ⟨_, hg, [v], prot B f H, F, F, _, f, DEnds.meth n R, rfl, ⟨w, ?_, hn, fun a h => ⟨(ha a h).1, (ha a h).2, prot_in (.inl h)⟩, prot_same, fun a h => prot_in (.inr h), fun _ _ h => h, fun a u h => .inl h, fun i u e => ?_⟩, hq s ds R hW, ?_⟩
  · rw [start_eq, List.length_cons, r.length]
    exact ⟨f, [], (List.append_nil f).symm, ho, ownE_start _ r⟩
  · cases i with
    | zero =>
      have e' : v = u := Option.some.inj e
      subst e'; rfl
    | succ i => simp at e
  have fin : ∀ {F' H' : Hp} {σ' : L2.St} {ρ' : Env} {fp' : List Addr} {s' : D} {r : V} {d : D} {fr : List Addr}, StOk K B [v] (prot B f H) F F' H' σ' ρ' fp' → slot ρ' 0 = some (n, s') → Val K m B F' H' r d fr → Apart B (prot B f H) F' fp' fr → R d s' → Q r H' := fun {F' H' σ' ρ' fp' s' r d fr} T e hv ap hR => by
    obtain ⟨v', f', fp2, e1, e2, T2, ap2, sub⟩ := T.take e
    have e3 := T.pn 0 v rfl
    rw [e3] at e1
    cases e1
    refine k F' H' r d fr s' f' T.stepM e2 hv (fun a ha => ?_) ?_ hR
    · have key : F' a = none ∧ a ∉ B ∧ prot B f H a = none := by
        rcases List.mem_append.mp ha with z | z
        · obtain ⟨h1, h2, h3, _⟩ := ap2.1 a z; exact ⟨h1, h2, h3⟩
        · obtain ⟨h1, h2, h3, _⟩ := ap.1 a z; exact ⟨h1, h2, h3⟩
      refine ⟨?_, key.1, key.2.1⟩
      by_cases hf : a ∈ f
      · exact .inl hf
      · right
        have := key.2.2
        rw [prot_out hf key.2.1] at this; exact this
    · refine List.nodup_append.mpr ⟨ap2.2, ap.2, fun a ha b hb e => ?_⟩
      subst e
      exact (ap.1 a hb).2.2.2 (sub a (List.mem_append_right _ ha))
  exact ⟨fun F' H' σ' ρ' fp' T ⟨s', e, h⟩ => fin T e (Val.atom (d := .non) (v := .non) rfl fun _ => .non) .nil h, fun F' H' σ' ρ' fp' v d f T hv ap ⟨s', e, h⟩ => fin T e hv ap h,
    fun _ _ _ _ _ _ h => h.elim, fun _ _ _ _ _ _ h => h.elim⟩
end
/-- self.f = e, in its own method -/
def putF' (f : Str) (d : D) : List (Str × D) → List (Str × D)
  | [] => [(f, d)]
  | (g, x) :: r => if g = f then (g, d) :: r else (g, x) :: putF' f d r
theorem putF_keys {f : Str} {v : V} {d : D} : ∀ {fs : List (Str × V)} {es : List (Str × D)}, fs.map (·.1) = es.map (·.1) → (putF f v fs).map (·.1) = (putF' f d es).map (·.1)
  | [], [], _ => rfl
  | (g, x) :: r, (g', y) :: s, h => by
    rw [List.map_cons, List.map_cons] at h
    injection h with h1 h2
    have h1 : g = g' := h1
    subst h1
    unfold putF putF'
    by_cases e : g = f
    · rw [if_pos e, if_pos e, List.map_cons, List.map_cons, h2]
    · rw [if_neg e, if_neg e, List.map_cons, List.map_cons, putF_keys h2]
  | [], _ :: _, h => by cases h
  | _ :: _, [], h => by cases h
theorem putF_own {P : V → D → List Addr → Prop} {f : Str} {v : V} {d : D} {q : List Addr} (h : P v d q) : ∀ {fs : List (Str × V)} {es : List (Str × D)} {g : List Addr}, fs.map (·.1) = es.map (·.1) → OwnL P (fs.map (·.2)) (es.map (·.2)) g → (g ++ q).Nodup →
    ∃ g', OwnL P ((putF f v fs).map (·.2)) ((putF' f d es).map (·.2)) g' ∧ (∀ a ∈ g', a ∈ g ∨ a ∈ q) ∧ g'.Nodup
  | [], [], g, _, t, nd => by
    have e : g = [] := t
    subst e
    exact ⟨q, OwnL.one h, fun a ha => .inr ha, (List.nodup_append.mp nd).2.1⟩
  | (k, x) :: r, (k', y) :: s, g, hk, ⟨f1, f2, e, h1, t⟩, nd => by
    rw [List.map_cons, List.map_cons] at hk
    injection hk with k1 k2
    have k1 : k = k' := k1
    subst k1
    subst e
    rw [List.append_assoc] at nd
    obtain ⟨n1, n2, n3⟩ := List.nodup_append.mp nd
    unfold putF putF'
    by_cases e : k = f
    · rw [if_pos e, if_pos e]
      refine ⟨q ++ f2, ⟨q, f2, rfl, h, t⟩, fun a ha => ?_, nd_comm n2⟩
      rcases List.mem_append.mp ha with z | z
      · exact .inr z
      · exact .inl (List.mem_append_right _ z)
    · rw [if_neg e, if_neg e]
      obtain ⟨g', o, sub, nd'⟩ := putF_own h k2 t n2
      refine ⟨f1 ++ g', ⟨f1, g', rfl, h1, o⟩, fun a ha => ?_, List.nodup_append.mpr ⟨n1, nd', fun a ha b hb e => ?_⟩⟩
      · rcases List.mem_append.mp ha with z | z
        · exact .inl (List.mem_append_left _ z)
        · rcases sub a z with z | z
          · exact .inl (List.mem_append_right _ z)
          · exact .inr z
      · subst e
        rcases sub a hb with z | z
        · exact n3 a ha a (List.mem_append_left _ z) rfl
        · exact n3 a ha a (List.mem_append_right _ z) rfl
  | [], _ :: _, _, h, _, _ => by cases h
  | _ :: _, [], _, h, _, _ => by cases h
section
variable {X : Cx} {e : Expr} {pin : Nat} {mr : Mode} {f : FM} {x fld : Str} {pos p pos' : Pos} {C : Addr}
theorem ds_fld (i n : Nat) (c : Cls X.K C) (nf : NoAttr X.K C fld) (he : DM X B e pin (.own n) f) (hN : NameOk X i x := by exact ⟨rfl, by first | exact Or.inl rfl | exact Or.inr (Or.inl rfl) | exact Or.inr (Or.inr rfl), by decide, by decide⟩)
    (hs : swapsWith e (some (.Attribute (.Name x p) fld pos')) pos.line X.env = pure false := by rfl) :
    DS X B (.Assign [.Attribute (.Name x p) fld pos'] e pos) pin mr (fun E ρ => f ρ fun d ρ' => ownObj C ρ' i n fun es => es.length < 1000 ∧ E.nx (ρ'.set i (some (n + 1, .obj C (putF' fld d es))))) :=
  PS.imp (ps_fld (pe_var hN.1 hN.2 hN.3 hN.4) he hs) fun Dn σ H ⟨Pn, Z0, F0, F, ρ, fp, E, hpl, S, hf, L⟩ => by
    refine ⟨Pn, Z0, F0, F, ρ, fp, _, hpl, S, hf, fun F' H' ρ' fp' v d f' S' hv ap hR => ?_⟩
    obtain ⟨es, e1, hz, hR⟩ := hR.inv
    obtain ⟨a, dx, fs, g, h1, h2, hk, h3, h4, h5, h6, kk⟩ := S'.obj e1
    obtain ⟨g', o, sub, nd⟩ := putF_own (f := fld) (show Own X.K F' H' n v d f' from hv) hk h3 (nd_of h5 ap.2 fun b hb z => (ap.1 b hb).2.2.2 (h6 b (List.mem_cons_of_mem _ z)))
    obtain ⟨fp2, S2⟩ := kk (putF fld v fs) (putF' fld d es) g' f' ap sub nd (putF_keys hk) o
    have hlen : fs.length = es.length := by have := congrArg List.length hk; simpa using this
    exact ⟨_, h1, a, C, dx, fs, rfl, h2, c, nf, by rw [hlen]; exact hz, L.nx F' _ _ _ fp2 S2 hR⟩
end
/-! ### C(..) -/
section
variable {X : Cx} {k : Nat} {fa C : Addr} {fd : FuncData} {ps : List Str} {ds : List Value} {dvs : List V} {x : Str} {p pos : Pos} {e : Expr} {es : List Expr} {ms : List Mode} {fs : FA} {W : FSpecM} {dd : List D} {n : Nat} {m : Mode}
theorem make_ok {K : PySem.W.Frag} {B A : List Addr} {F H : Hp} {vs : List V} {xs : List D} {R : D → Prop} {Q : VK} {x dx : Addr} (w : WF B F H) (r : RL K F vs xs) (hx : H x = none) (hdx : H dx = none) (ne : dx ≠ x)
    (h : W (.obj C []) xs fun d s => d = .non ∧ R s) (k : Post K B A F H (.own (n + 1)) R Q) : spM K (n + 1) m W (.ref x :: vs) (upd (upd H dx (.own x)) x (.ins C dx [])) (fun v H2 => v = .non ∧ Q (.ref x) H2) fun _ _ _ => False := by
  have w1 := w.laid (o := .own x) hdx rfl
  have hx1 : upd H dx (.own x) x = none := by rw [upd_ne (Ne.symm ne)]; exact hx
  have w2 := w1.laid (o := .ins C dx []) hx1 rfl
  have old : ∀ a o, H a = some o → upd (upd H dx (.own x)) x (.ins C dx []) a = some o := fun a o e => same_upd hx1 a o (same_upd hdx a o e)
  refine ⟨B, F, .ref x, vs, .obj C [], xs, [x], _, rfl, w2, ⟨x, dx, [], [], rfl, upd_same, rfl, rfl, rfl⟩, ⟨fun a ha => ?_, by simp⟩, r, h, fun F' H' r d fr s' f' s ho hv hf hn ⟨hd, hR⟩ => ?_⟩
  · have e : a = x := by simpa using ha
    subst e
    exact ⟨F_none w hx, w.notB hx⟩
  · subst hd
    obtain ⟨rfl, rfl⟩ := hv.non
    refine ⟨rfl, k F' H' (.ref x) s' f' ⟨fun a o hb e => s.same a o hb (fun hm => ?_) (old a o e), s.fs, fun a u e => ?_, s.wf⟩ ho (fun a ha => ?_) (by simpa using hn) hR⟩
    · have e' : a = x := by simpa using hm
      subst e'
      rw [hx] at e; cases e
    · rcases s.fresh a u e with z | z | z | z
      · exact .inl z
      · right; left
        cases q : H a with
        | none => rfl
        | some o => rw [old a o q] at z; cases z
      · exact .inr (.inr (.inl z))
      · have e' : a = x := by simpa using z
        subst e'
        exact .inr (.inl hx)
    · obtain ⟨h1, h2⟩ := hf a (by simpa using ha)
      refine ⟨?_, h2⟩
      rcases h1 with z | z
      · have e' : a = x := by simpa using z
        subst e'
        exact .inr hx
      · right
        cases q : H a with
        | none => rfl
        | some o => rw [old a o q] at z; cases z
theorem de_make (M : Mk X.K C fa) (F : FnOk X.prog X.w X.K X.mg X.base CX0 k fa fd ps (spM X.K (n + 1) m W)) (hr : Room (k + 1) X.A) (hg : Gl X x) (hm : X.mg x = some (.ref C)) (hb : Binds X.K fd ps ds) (hd : Vals dvs ds) (hdd : Dflt X.K dvs dd)
    (ha : DA X B (e :: es) ms fs) (hms : ∀ m ∈ ms, m = .own 0 := by simp) (hdb : (x == ("__debug__" : Str)) = false := by decide) (he : starEach (e :: es) X.env = (false, eval e X.env) :: starEach es X.env := by rfl) (hpl : (backTo pos (starEach es X.env)).any (·.1) = false := by rfl) :
    DE X B (.Call (.Name x p) (e :: es) [] pos) (.own (n + 1)) (fArgs (fun xs R => W (.obj C []) (xs ++ dd) fun d s => d = .non ∧ R s) fs) :=
  PE.imp (pe_make M F hr hg hm hb hd pass0 ha hdb he hpl) fun σ H Q ⟨F, ρ, fp, R, S, hf, k⟩ => ⟨F, ρ, fp, _, S, hf, fun F1 H1 vs xs fp1 s1 hv o1 n1 hW x dx hx hdx ne =>
    make_ok s1.wf ((hv.rl0 hms).append (hdd F1)) hx hdx ne hW (k.after s1 (A1 := fp1) fun a ha => (o1 a ha).1)⟩
theorem de_make0 (M : Mk X.K C fa) (F : FnOk X.prog X.w X.K X.mg X.base CX0 k fa fd ps (spM X.K (n + 1) m W)) (hr : Room (k + 1) X.A) (hg : Gl X x) (hm : X.mg x = some (.ref C)) (hb : Binds X.K fd ps ds) (hd : Vals dvs ds) (hdd : Dflt X.K dvs dd)
    (hdb : (x == ("__debug__" : Str)) = false := by decide) : DE X B (.Call (.Name x p) [] [] pos) (.own (n + 1)) (fun _ R => W (.obj C []) dd fun d s => d = .non ∧ R s) :=
  PE.imp (pe_make0 M F hr hg hm hb hd pass0 hdb) fun σ H Q ⟨F, ρ, fp, R, S, hf, k⟩ x dx hx hdx ne => make_ok S.wf (hdd F) hx hdx ne hf k
/-- o.m() -/
theorem de_meth0 {mt : Str} {o : Expr} {fo : FE} {W : BSpec} {apos : Pos} {pl : Sem Bool} (ho : DE X B o (.own 0) fo) (c : Cls X.K C) (hm : Meth X.K C mt fa) (F : FnOk X.prog X.w X.K X.mg X.base CX0 k fa fd ps (spD X.K m W)) (hr : Room k X.A) (hb : Binds X.K fd ps ds) (hd : Vals dvs ds) (hdd : Dflt X.K dvs dd)
    (ht : eval (.Call (.Attribute o mt apos) [] [] pos) X.env = (do
      let ov ← eval o X.env
      standAt apos.atName
      let (f, first) ← holding [ov] (getMethod ov mt pl)
      callWith pos f first (backTo pos (starEach [] X.env)) (backToKw pos (keywordEach [] X.env))) := by rfl) :
    DE X B (.Call (.Attribute o mt apos) [] [] pos) m (fun ρ R => fo ρ fun x => isObjD C mt x ∧ W B (x :: dd) R) :=
  PE.imp (pe_meth0 ho c hm F hr hb hd pass0 ht) fun σ H Q ⟨F, ρ, fp, R, S, hf, k⟩ => by
    refine ⟨F, ρ, fp, _, S, hf, fun F1 H1 v x f1 s1 hv o1 n1 ⟨hx, hg⟩ => ?_⟩
    obtain ⟨es', rfl, hl'⟩ := hx.inv
    obtain ⟨ef, a, dx, gs, ev, ea, hk, it⟩ := hv.obj rfl s1.wf
    subst ev
    refine ⟨a, dx, gs, rfl, ea, lookup_none hk hl', ?_⟩
    have hx1 : GK.R X.K F1 (.ref a) (.obj C es') := hv.1
    exact call_all (vs := .ref a :: ([] ++ dvs)) s1.wf (.cons hx1 (hdd F1)) hg (k.after s1 (A1 := []) fun a ha => (by cases ha))
end
end GK

namespace GK
open PySem PySem.Spec PyProof.Rows L2

/-! ### tests -/
def bOf (R : Bool → Prop) : D → Prop
  | .bl b => R b
  | _ => False
abbrev fBool (f : FE) : FT := fun ρ R => f ρ (bOf R)
section
variable {K : PySem.W.Frag} {m : Mode} {σ : L2.St} {H : Hp} {f : FE}
theorem tD_bool {Q : Bool → Hp → Prop} (h : tDT K B (fBool f) σ H Q) : tD K B m f σ H fun x H' => ∃ k, x = .bl k ∧ Q k H' := by
  obtain ⟨F, ρ, fp, R, S, hf, k⟩ := h
  refine ⟨F, ρ, fp, _, S, hf, fun F' H' v d f' s hv ho hn hR => ?_⟩
  cases d <;> try exact (show False from hR).elim
  obtain ⟨rfl, _⟩ := hv.bl
  exact ⟨_, rfl, k F' H' _ s hR⟩
end
section
variable {X : Cx} {a b e : Expr} {rest : List Expr} {op : CmpOp} {pos : Pos} {m m1 m2 : Mode} {r : R2} {g : D → D → (D → Prop) → Prop} {f f' : FE} {ft ft' : FT}
theorem dt_cmp (m : Mode) (ho : OpR X (compareOp op) r) (hr : Op2 X.K r m1 m2 m g) (ha : DE X B a m1 f) (hb : DE X B b m2 f') (hm : behindInMarks op b = false) : DT X B (.Compare a [op] [b] pos) (fBool (fBin g f f')) :=
  PT.imp (pt_cmpR ho ha hb hm) fun _ _ _ q => tD_bin (m := m) (g := g) hr (tD_bool q)
/-- an expression whose value is True or False -/
theorem dt_val (h : DE X B e m f) (he : ∀ whole, isTrue e X.env whole = (do let v ← whole; standAt e.pos; holding [v] (truthy v)) := by intro _; rfl) : DT X B e (fBool f) :=
  PT.imp (pt_val h he) fun _ _ _ q => tD_bool q
theorem dt_not (h : DT X B a ft) : DT X B (.UnaryOp .Not a pos) (fun ρ R => ft ρ fun c => R (!c)) :=
  PT.imp (pt_not h) fun _ _ _ ⟨F, ρ, fp, R, S, hf, k⟩ => ⟨F, ρ, fp, _, S, hf, fun F' H' c s hR => k F' H' _ s hR⟩
abbrev DW (X : Cx) (B : List Addr) (e : Expr) (f : FT) : Prop := PW X e (tDT X.K B f)
theorem dw_and1 (h : DT X B a ft) : DW X B (.BoolOp .And [a] pos) ft := pw_and1 h
theorem dw_or1 (h : DT X B a ft) : DW X B (.BoolOp .Or [a] pos) ft := pw_or1 h
theorem dw_and (h : DT X B a ft) (h' : DW X B (.BoolOp .And (b :: rest) pos) ft') : DW X B (.BoolOp .And (a :: b :: rest) pos) (fun ρ R => ft ρ fun c => if c = true then ft' ρ R else R false) :=
  PW.imp (pw_and h h') fun σ H Q ⟨F, ρ, fp, R, S, hf, k⟩ => ⟨F, ρ, fp, _, S, hf, fun F1 H1 c s hR => by
    cases c with
    | true => exact ⟨F1, ρ, fp, R, S.step s (fun a h => by cases h), hR, fun F2 H2 d s2 hd => k F2 H2 d (s.trans s2 fun a h => by cases h) hd⟩
    | false => exact k F1 H1 _ s (by simpa using hR)⟩
theorem dw_or (h : DT X B a ft) (h' : DW X B (.BoolOp .Or (b :: rest) pos) ft') : DW X B (.BoolOp .Or (a :: b :: rest) pos) (fun ρ R => ft ρ fun c => if c = true then R true else ft' ρ R) :=
  PW.imp (pw_or h h') fun σ H Q ⟨F, ρ, fp, R, S, hf, k⟩ => ⟨F, ρ, fp, _, S, hf, fun F1 H1 c s hR => by
    cases c with
    | true => exact k F1 H1 _ s (by simpa using hR)
    | false => exact ⟨F1, ρ, fp, R, S.step s (fun a h => by cases h), hR, fun F2 H2 d s2 hd => k F2 H2 d (s.trans s2 fun a h => by cases h) hd⟩⟩
theorem dt_bool (h : DW X B e ft) : DT X B e ft := h.pt
/-- as values -/
def fAndV (f f' : FE) : FE := fun ρ R => f ρ (bOf fun c => if c = true then f' ρ R else R (.bl false))
def fOrV (f f' : FE) : FE := fun ρ R => f ρ (bOf fun c => if c = true then R (.bl true) else f' ρ R)
theorem de_one {op} (h : DE X B a m f) : DE X B (.BoolOp op [a] pos) m f := pe_one h
theorem de_and (h : DE X B a m1 f) (h' : DE X B (.BoolOp .And (b :: rest) pos) m f') : DE X B (.BoolOp .And (a :: b :: rest) pos) m (fAndV f f') :=
  PE.imp (pe_and h h') fun σ H Q ⟨F, ρ, fp, R, S, hf, k⟩ => ⟨F, ρ, fp, _, S, hf, fun F1 H1 v d f1 s hv ho hn hR => by
    cases d <;> try exact (show False from hR).elim
    obtain ⟨rfl, rfl⟩ := hv.bl
    refine ⟨_, rfl, ?_⟩
    rename_i c
    have hR : if c = true then f' ρ R else R (.bl false) := hR
    cases c with
    | true => exact ⟨F1, ρ, fp, R, S.step s (fun a h => by cases h), hR, k.after s fun a h => by cases h⟩
    | false => exact k.after s (A1 := []) (fun a h => by cases h) |>.bl s.wf (by simpa using hR)⟩
theorem de_or (h : DE X B a m1 f) (h' : DE X B (.BoolOp .Or (b :: rest) pos) m f') : DE X B (.BoolOp .Or (a :: b :: rest) pos) m (fOrV f f') :=
  PE.imp (pe_or h h') fun σ H Q ⟨F, ρ, fp, R, S, hf, k⟩ => ⟨F, ρ, fp, _, S, hf, fun F1 H1 v d f1 s hv ho hn hR => by
    cases d <;> try exact (show False from hR).elim
    obtain ⟨rfl, rfl⟩ := hv.bl
    refine ⟨_, rfl, ?_⟩
    rename_i c
    have hR : if c = true then R (.bl true) else f' ρ R := hR
    cases c with
    | true => exact k.after s (A1 := []) (fun a h => by cases h) |>.bl s.wf (by simpa using hR)
    | false => exact ⟨F1, ρ, fp, R, S.step s (fun a h => by cases h), by simpa using hR, k.after s fun a h => by cases h⟩⟩
def gNotV : D → (D → Prop) → Prop
  | .bl b, R => R (.bl (!b))
  | _, _ => False
theorem de_not (h : DE X B a m1 f) : DE X B (.UnaryOp .Not a pos) m (fUn gNotV f) :=
  PE.imp (pe_not h) fun σ H Q q => tD_un (m := m) (g := gNotV) (f := f) (r := fun x H1 Q => ∃ c, x = .bl c ∧ Q (.bl (!c)) H1) (by
    intro B F H x d fp R Q w hv hf hg k
    cases d <;> try exact (show False from hg).elim
    obtain ⟨rfl, rfl⟩ := hv.bl
    exact ⟨_, rfl, k.bl w hg⟩) q
theorem de_ifExp {c : Expr} (hc : DT X B c ft) (ha : DE X B a m f) (hb : DE X B b m f') : DE X B (.IfExp c a b pos) m (fun ρ R => ft ρ fun t => if t = true then f ρ R else f' ρ R) :=
  PE.imp (pe_ifExp hc ha hb) fun σ H Q ⟨F, ρ, fp, R, S, hf, k⟩ => ⟨F, ρ, fp, _, S, hf, fun F1 H1 c s hR => by
    cases c with
    | true => exact ⟨F1, ρ, fp, R, S.step s (fun a h => by cases h), hR, k.after s fun a h => by cases h⟩
    | false => exact ⟨F1, ρ, fp, R, S.step s (fun a h => by cases h), by simpa using hR, k.after s fun a h => by cases h⟩⟩
end

/-! ### equality -/
/-- of atoms -/
def eqA : D → D → Option Bool
  | .int i, .int j => some (decide (i = j))
  | .str i, .str j => some (decide (i = j))
  | .bl i, .bl j => some (decide (i = j))
  | .non, .non => some true
  | .non, .int _ => some false
  | .int _, .non => some false
  | .non, .str _ => some false
  | .str _, .non => some false
  | .int _, .str _ => some false
  | .str _, .int _ => some false
  | .non, .bl _ => some false
  | .bl _, .non => some false
  | _, _ => none
def gEqA (n : Bool) (x y : D) (R : D → Prop) : Prop := match eqA x y with
  | some b => R (.bl (n ^^ b))
  | none => False
theorem eqA_spec {K : PySem.W.Frag} {m1 m2 : Mode} {B f1 f2 : List Addr} {F H : Hp} {x y : V} {d e : D} {b : Bool} (h : eqA d e = some b) (hx : Val K m1 B F H x d f1) (hy : Val K m2 B F H y e f2) : scal x y = true ∧ decide (x = y) = b := by
  cases d <;> cases e <;> try (cases h; done)
  all_goals first
    | (obtain ⟨rfl, _⟩ := hx.int) | (obtain ⟨rfl, _⟩ := hx.str) | (obtain ⟨rfl, _⟩ := hx.bl) | (obtain ⟨rfl, _⟩ := hx.non)
  all_goals first
    | (obtain ⟨rfl, _⟩ := hy.int) | (obtain ⟨rfl, _⟩ := hy.str) | (obtain ⟨rfl, _⟩ := hy.bl) | (obtain ⟨rfl, _⟩ := hy.non)
  all_goals (cases h; refine ⟨rfl, ?_⟩; first | simp | rfl)
/-! of data at any depth -/
mutual
def toP : D → PyData
  | .non => .none
  | .bl b => .bool b
  | .int i => .int i
  | .str s => .str s
  | .tup xs => .tuple (toPs xs)
  | .lst xs => .list (toPs xs)
  | .raw _ => .none
  | .dK _ => .none
  | .dT _ => .none
  | .obj _ _ => .none
def toPs : List D → List PyData
  | [] => []
  | d :: ds => toP d :: toPs ds
end
mutual
/-- None, bools, ints, texts, tuples and lists of such, n deep -/
def okD : Nat → D → Bool
  | _, .non => true
  | _, .bl _ => true
  | _, .int _ => true
  | _, .str s => s.cps.all (· < 0x110000)
  | n + 1, .tup xs => okDs n xs
  | n + 1, .lst xs => okDs n xs
  | _, _ => false
def okDs : Nat → List D → Bool
  | _, [] => true
  | n, d :: ds => okD n d && okDs n ds
end
mutual
theorem okD_can : ∀ {n : Nat} {d : D}, okD n d = true → (toP d).canLay0 = true ∧ (toP d).depth ≤ n
  | n, .non, _ => by simp [toP, PyData.canLay0, PyData.depth]
  | n, .bl b, _ => by simp [toP, PyData.canLay0, PyData.depth]
  | n, .int b, _ => by simp [toP, PyData.canLay0, PyData.depth]
  | n, .str b, h => by
    refine ⟨?_, by simp [toP, PyData.depth]⟩
    have h : (b.cps.all (· < 0x110000)) = true := by simpa [okD] using h
    simp only [toP, PyData.canLay0]
    exact h
  | n + 1, .tup xs, h => by
    have h := okDs_can (n := n) (ds := xs) (by simpa [okD] using h)
    simp only [toP, PyData.canLay0, PyData.depth]
    exact ⟨h.1, by have := h.2; omega⟩
  | n + 1, .lst xs, h => by
    have h := okDs_can (n := n) (ds := xs) (by simpa [okD] using h)
    simp only [toP, PyData.canLay0, PyData.depth]
    exact ⟨h.1, by have := h.2; omega⟩
  | 0, .tup xs, h => by simp [okD] at h
  | 0, .lst xs, h => by simp [okD] at h
  | n, .raw _, h => by simp [okD] at h
  | n, .dK _, h => by simp [okD] at h
  | n, .dT _, h => by simp [okD] at h
  | n, .obj _ _, h => by simp [okD] at h
theorem okDs_can : ∀ {n : Nat} {ds : List D}, okDs n ds = true → PyData.canLayAll0 (toPs ds) = true ∧ PyData.depthAll (toPs ds) ≤ n
  | n, [], _ => by simp [toPs, PyData.canLayAll0, PyData.depthAll]
  | n, d :: ds, h => by
    rw [okDs, Bool.and_eq_true] at h
    have h1 := okD_can h.1
    have h2 := okDs_can h.2
    simp only [toPs, PyData.canLayAll0, PyData.depthAll, Bool.and_eq_true]
    exact ⟨⟨h1.1, h2.1⟩, by have := h1.2; have := h2.2; omega⟩
end
theorem okD_shaped {n : Nat} {d : D} (h : okD n d = true) (hn : n ≤ 64) : SeqAt.shaped (toP d) = true := by
  obtain ⟨h1, h2⟩ := okD_can h
  exact Bool.and_eq_true_iff.mpr ⟨h1, decide_eq_true (Nat.le_trans h2 hn)⟩
mutual
theorem R.dp {K : PySem.W.Frag} {B : List Addr} {H : Hp} : ∀ {n : Nat} {v : V} {d : D}, okD n d = true → R K (rdH B H) v d → Dp K H v (toP d)
  | n, _, .non, _, r => by cases r; simp only [toP]; exact .non
  | n, _, .bl b, _, r => by cases r; simp only [toP]; exact .bl b
  | n, _, .int i, _, r => by cases r; simp only [toP]; exact .int i
  | n, _, .str s, _, r => by cases r; simp only [toP]; exact .str s
  | n + 1, _, .tup xs, h, r => by
    obtain ⟨a, vs, rfl, ht, rl⟩ := r.tupI
    simp only [toP]
    exact .tup (sqT_rd ht) (RL.dp (n := n) (by simpa [okD] using h) rl)
  | n + 1, _, .lst xs, h, r => by
    obtain ⟨a, vs, rfl, ht, rl⟩ := r.lstI
    simp only [toP]
    exact .lst (sqL_rd ht) (RL.dp (n := n) (by simpa [okD] using h) rl)
  | 0, _, .tup xs, h, r => by simp [okD] at h
  | 0, _, .lst xs, h, r => by simp [okD] at h
  | n, _, .raw _, h, r => by simp [okD] at h
  | n, _, .dK _, h, r => by simp [okD] at h
  | n, _, .dT _, h, r => by simp [okD] at h
  | n, _, .obj _ _, h, r => by simp [okD] at h
theorem RL.dp {K : PySem.W.Frag} {B : List Addr} {H : Hp} : ∀ {n : Nat} {vs : List V} {ds : List D}, okDs n ds = true → RL K (rdH B H) vs ds → DpAll K H vs (toPs ds)
  | n, _, [], _, r => by cases r; simp only [toPs]; exact .nil
  | n, _, d :: ds, h, r => by
    rw [okDs, Bool.and_eq_true] at h
    cases r with
    | cons r t =>
      simp only [toPs]
      exact .cons (R.dp h.1 r) (RL.dp h.2 t)
end
def eqvD (x y : D) : Bool := PyData.eqv (toP x) (toP y)
def gEqD (n : Bool) (x y : D) (R : D → Prop) : Prop := okD 60 x = true ∧ okD 60 y = true ∧ R (.bl (n ^^ eqvD x y))
section
variable {X : Cx} {a b : Expr} {pos : Pos} {m m1 m2 : Mode} {f f' : FE}
theorem op2_eqA {K : PySem.W.Frag} : Op2 K rEq m1 m2 m (gEqA false) := by
  intro B F H x y d e fp R Q w ⟨f1, f2, ef, h1, h2⟩ _ hg k
  unfold gEqA at hg
  split at hg
  · rename_i b hb
    obtain ⟨s, ed⟩ := eqA_spec hb h1 h2
    refine ⟨s, ?_⟩
    rw [ed]
    exact k.bl w (by simpa using hg)
  · exact hg.elim
theorem op2_neA {K : PySem.W.Frag} : Op2 K rNe m1 m2 m (gEqA true) := by
  intro B F H x y d e fp R Q w ⟨f1, f2, ef, h1, h2⟩ _ hg k
  unfold gEqA at hg
  split at hg
  · rename_i b hb
    obtain ⟨s, ed⟩ := eqA_spec hb h1 h2
    refine ⟨s, ?_⟩
    rw [ed]
    exact k.bl w (by simpa using hg)
  · exact hg.elim
theorem op2_eqD {K : PySem.W.Frag} : Op2 K (rEqD K) m1 m2 m (gEqD false) := by
  intro B F H x y d e fp R Q w ⟨f1, f2, ef, h1, h2⟩ hf ⟨o1, o2, hg⟩ k
  subst ef
  have r1 := h1.rd w fun a ha => (hf.1 a (List.mem_append_left _ ha)).2
  have r2 := h2.rd w fun a ha => (hf.1 a (List.mem_append_right _ ha)).2
  refine ⟨_, _, GK.R.dp o1 r1, GK.R.dp o2 r2, okD_shaped o1 (by decide), okD_shaped o2 (by decide), k.bl w ?_⟩
  simpa [eqvD] using hg
theorem op2_neD {K : PySem.W.Frag} : Op2 K (rNeD K) m1 m2 m (gEqD true) := by
  intro B F H x y d e fp R Q w ⟨f1, f2, ef, h1, h2⟩ hf ⟨o1, o2, hg⟩ k
  subst ef
  have r1 := h1.rd w fun a ha => (hf.1 a (List.mem_append_left _ ha)).2
  have r2 := h2.rd w fun a ha => (hf.1 a (List.mem_append_right _ ha)).2
  refine ⟨_, _, GK.R.dp o1 r1, GK.R.dp o2 r2, okD_shaped o1 (by decide), okD_shaped o2 (by decide), k.bl w ?_⟩
  simpa [eqvD] using hg
theorem de_eq (ha : DE X B a m1 f) (hb : DE X B b m2 f') : DE X B (.Compare a [.Eq] [b] pos) m (fBin (gEqA false) f f') := de_cmp op_eq op2_eqA ha hb (nomark _)
theorem de_ne (ha : DE X B a m1 f) (hb : DE X B b m2 f') : DE X B (.Compare a [.NotEq] [b] pos) m (fBin (gEqA true) f f') := de_cmp op_ne op2_neA ha hb (nomark _)
theorem dt_eq (ha : DE X B a m1 f) (hb : DE X B b m2 f') : DT X B (.Compare a [.Eq] [b] pos) (fBool (fBin (gEqA false) f f')) := dt_cmp .rd op_eq op2_eqA ha hb (nomark _)
theorem dt_ne (ha : DE X B a m1 f) (hb : DE X B b m2 f') : DT X B (.Compare a [.NotEq] [b] pos) (fBool (fBin (gEqA true) f f')) := dt_cmp .rd op_ne op2_neA ha hb (nomark _)
theorem de_eqD (hu : X.A.units + 64 < cLine) (ha : DE X B a m1 f) (hb : DE X B b m2 f') : DE X B (.Compare a [.Eq] [b] pos) m (fBin (gEqD false) f f') := de_cmp (op_eqD hu) op2_eqD ha hb (nomark _)
theorem de_neD (hu : X.A.units + 64 < cLine) (ha : DE X B a m1 f) (hb : DE X B b m2 f') : DE X B (.Compare a [.NotEq] [b] pos) m (fBin (gEqD true) f f') := de_cmp (op_neD hu) op2_neD ha hb (nomark _)
theorem dt_eqD (hu : X.A.units + 64 < cLine) (ha : DE X B a m1 f) (hb : DE X B b m2 f') : DT X B (.Compare a [.Eq] [b] pos) (fBool (fBin (gEqD false) f f')) := dt_cmp .rd (op_eqD hu) op2_eqD ha hb (nomark _)
theorem dt_neD (hu : X.A.units + 64 < cLine) (ha : DE X B a m1 f) (hb : DE X B b m2 f') : DT X B (.Compare a [.NotEq] [b] pos) (fBool (fBin (gEqD true) f f')) := dt_cmp .rd (op_neD hu) op2_neD ha hb (nomark _)
theorem dt_lt (ha : DE X B a m1 f) (hb : DE X B b m2 f') : DT X B (.Compare a [.Lt] [b] pos) (fBool (fBin gLt f f')) := dt_cmp .rd op_lt op2B0 ha hb (nomark _)
theorem dt_le (ha : DE X B a m1 f) (hb : DE X B b m2 f') : DT X B (.Compare a [.LtE] [b] pos) (fBool (fBin gLe f f')) := dt_cmp .rd op_le op2B0 ha hb (nomark _)
theorem dt_gt (ha : DE X B a m1 f) (hb : DE X B b m2 f') : DT X B (.Compare a [.Gt] [b] pos) (fBool (fBin gGt f f')) := dt_cmp .rd op_gt op2B0 ha hb (nomark _)
theorem dt_ge (ha : DE X B a m1 f) (hb : DE X B b m2 f') : DT X B (.Compare a [.GtE] [b] pos) (fBool (fBin gGe f f')) := dt_cmp .rd op_ge op2B0 ha hb (nomark _)
/-- is None -/
def gIsN (n : Bool) : D → D → (D → Prop) → Prop
  | .raw _, _, _ => False
  | .non, .non, R => R (.bl (!n))
  | _, .non, R => R (.bl n)
  | _, _, _ => False
theorem isN_ref {K : PySem.W.Frag} {G : Hp} {v : V} {d : D} (r : R K G v d) (h : d ≠ .non) (h2 : ∀ w, d ≠ .raw w) : decide (v = .non) = false := by
  cases r <;> first | exact absurd rfl h | rfl | exact absurd rfl (h2 _)
theorem op2_isN {K : PySem.W.Frag} {n : Bool} : Op2 K (fun x y H Q => y = .non ∧ Q (.bl (n ^^ decide (x = .non))) H) m1 m2 m (gIsN n) := by
  intro B F H x y d e fp R Q w ⟨f1, f2, ef, h1, h2⟩ hf hg k
  subst ef
  have r1 := h1.rd w fun a ha => (hf.1 a (List.mem_append_left _ ha)).2
  cases e <;> try (cases d <;> exact (show False from hg).elim)
  obtain ⟨rfl, _⟩ := h2.non
  refine ⟨rfl, ?_⟩
  cases d
  case non =>
    obtain ⟨rfl, _⟩ := h1.non
    exact k.bl w (by cases n <;> exact hg)
  case raw => exact (show False from hg).elim
  all_goals (rw [isN_ref r1 (by intro z; cases z) (by intro w z; cases z)]; exact k.bl w (by cases n <;> exact hg))
theorem op_isN' : OpR X (compareOp .Is) (fun x y H Q => y = .non ∧ Q (.bl (false ^^ decide (x = .non))) H) := fun pins s σ H x y v u Q I rx ry ⟨h1, h2⟩ => op_isN pins s σ H x y v u Q I rx ry ⟨h1, by simpa using h2⟩
theorem op_notN' : OpR X (compareOp .IsNot) (fun x y H Q => y = .non ∧ Q (.bl (true ^^ decide (x = .non))) H) := fun pins s σ H x y v u Q I rx ry ⟨h1, h2⟩ => op_notN pins s σ H x y v u Q I rx ry ⟨h1, by simpa using h2⟩
theorem de_is (ha : DE X B a m1 f) (hb : DE X B b m2 f') : DE X B (.Compare a [.Is] [b] pos) m (fBin (gIsN false) f f') := de_cmp op_isN' op2_isN ha hb (nomark _)
theorem de_isnot (ha : DE X B a m1 f) (hb : DE X B b m2 f') : DE X B (.Compare a [.IsNot] [b] pos) m (fBin (gIsN true) f f') := de_cmp op_notN' op2_isN ha hb (nomark _)
theorem dt_is (ha : DE X B a m1 f) (hb : DE X B b m2 f') : DT X B (.Compare a [.Is] [b] pos) (fBool (fBin (gIsN false) f f')) := dt_cmp .rd op_isN' op2_isN ha hb (nomark _)
theorem dt_isnot (ha : DE X B a m1 f) (hb : DE X B b m2 f') : DT X B (.Compare a [.IsNot] [b] pos) (fBool (fBin (gIsN true) f f')) := dt_cmp .rd op_notN' op2_isN ha hb (nomark _)
end
end GK

namespace GK
open PySem PySem.Spec PyProof.Rows L2

/-! ### items -/
def gIxL : D → D → (D → Prop) → Prop
  | .lst ds, .int i, R => ∃ d, atI ds i = some d ∧ R d
  | _, _, _ => False
def gIxT : D → D → (D → Prop) → Prop
  | .tup ds, .int i, R => ∃ d, atI ds i = some d ∧ R d
  | _, _, _ => False
def gIxS : D → D → (D → Prop) → Prop
  | .str z, .int i, R => z.length ≤ sizeLine ∧ ∃ c, atI z.cps.toList i = some c ∧ R (.str ⟨#[c]⟩)
  | _, _, _ => False
/-- list, tuple or text -/
def gIx : D → D → (D → Prop) → Prop
  | .lst ds, .int i, R => ∃ d, atI ds i = some d ∧ R d
  | .tup ds, .int i, R => ∃ d, atI ds i = some d ∧ R d
  | _, _, _ => False
theorem atI_same {α β : Type} {xs : List α} {ys : List β} {i : Int} {d : β} (h : xs.length = ys.length) (e : atI ys i = some d) : ∃ j : Nat, ys[j]? = some d ∧ ∀ x, xs[j]? = some x → atI xs i = some x := by
  unfold atI at e ⊢
  rw [h]
  cases q : ixN ys.length i with
  | none => rw [q] at e; cases e
  | some j =>
    rw [q] at e
    exact ⟨j, e, fun x hx => hx⟩
section
variable {K : PySem.W.Frag} {m m2 : Mode}
theorem op2_ix (hm : m.look = true) : Op2 K (rIx K) m m2 m.child gIx := by
  intro B F H x y d e fp R Q w ⟨f1, f2, ef, h1, h2⟩ _ hg k
  cases d <;> cases e <;> try exact (show False from hg).elim
  · obtain ⟨c, hc, hR⟩ := hg
    obtain ⟨rfl, _⟩ := h2.int
    obtain ⟨_, a, vs, rfl, hs, it⟩ := h1.tup hm w
    obtain ⟨j, e1, e2⟩ := atI_same it.1 hc
    obtain ⟨v, e3, hv⟩ := it.2 j c e1
    exact .inr (.inl ⟨a, vs, _, v, rfl, rfl, hs, e2 v e3, k.val w hv hR⟩)
  · obtain ⟨c, hc, hR⟩ := hg
    obtain ⟨rfl, _⟩ := h2.int
    obtain ⟨_, a, vs, rfl, hs, it⟩ := h1.lst hm w
    obtain ⟨j, e1, e2⟩ := atI_same it.1 hc
    obtain ⟨v, e3, hv⟩ := it.2 j c e1
    exact .inl ⟨a, vs, _, v, rfl, rfl, hs, e2 v e3, k.val w hv hR⟩
theorem op2_ixS {m1 : Mode} : Op2 K rIxS m1 m2 m gIxS := by
  intro B F H x y d e fp R Q w ⟨f1, f2, ef, h1, h2⟩ _ hg k
  cases d <;> cases e <;> try exact (show False from hg).elim
  obtain ⟨hz, c, hc, hR⟩ := hg
  obtain ⟨rfl, _⟩ := h1.str
  obtain ⟨rfl, _⟩ := h2.int
  exact ⟨_, _, c, rfl, rfl, hz, hc, k.str w hR⟩
end
section
variable {X : Cx} {a b : Expr} {pos : Pos} {m m1 m2 : Mode} {f f' : FE}
/-- xs[i], t[i] -/
theorem de_at (ha : DE X B a m f) (hb : DE X B b m2 f') (hm : m.look = true := by rfl) (hs : PlainIx b := by exact fun _ _ => rfl) : DE X B (.Subscript a b pos) m.child (fBin gIx f f') := de_ix ix_seq (op2_ix hm) ha hb hs
theorem de_atS (ha : DE X B a m1 f) (hb : DE X B b m2 f') (hs : PlainIx b := by exact fun _ _ => rfl) : DE X B (.Subscript a b pos) m (fBin gIxS f f') := de_ix ix_str op2_ixS ha hb hs
end

/-! ### dicts, read -/
def lookD : D → D → Option (Option D)
  | .dK es, k => (keyOf k).map (getD' es)
  | .dT es, k => (keyT k).map (getD' es)
  | _, _ => none
theorem look_ok {K : PySem.W.Frag} {m mk : Mode} {B f1 f2 : List Addr} {F H : Hp} {v kv : V} {d kd : D} {o : Option D} (hm : m.look = true) (w : WF B F H) (hv : Val K m B F H v d f1) (hk : R K (rdH B H) kv kd) (h : lookD d kd = some o) :
    ∃ a ov, v = .ref a ∧ DGet H a kv ov ∧ IsD H a ∧ ((o = none ∧ ov = none) ∨ ∃ x y, o = some x ∧ ov = some y ∧ Val K m.child B F H y x []) := by
  cases d <;> try (cases h; done)
  · rename_i es
    obtain ⟨k, ek, eo⟩ := Option.map_eq_some_iff.mp h
    subst eo
    obtain ⟨_, a, kvs, rfl, hr, hk', it⟩ := hv.dK hm w
    have e := keyOf_R ek hk
    subst e
    refine ⟨a, valV kvs k, rfl, .inl ⟨kvs, k, hr, rfl, rfl⟩, .inl ⟨kvs, hr⟩, ?_⟩
    rcases val_get (k := k) hk' with ⟨h1, h2⟩ | ⟨i, y, x, h1, h2, h3, h4⟩
    · exact .inl ⟨h2, h1⟩
    · obtain ⟨y', e3, hy⟩ := it.2 i x h4
      rw [h3] at e3; cases e3
      exact .inr ⟨x, y, h2, h1, hy⟩
  · rename_i es
    obtain ⟨k, ek, eo⟩ := Option.map_eq_some_iff.mp h
    subst eo
    obtain ⟨_, a, kvs, rfl, hr, hk', it⟩ := hv.dT hm w
    cases kd <;> try (cases ek; done)
    rename_i js
    obtain ⟨b, ws, rfl, ht, rl⟩ := hk.tupI
    have e : ws = k.map kV := keysOf_R ek rl
    subst e
    refine ⟨a, valV kvs k, rfl, .inr ⟨kvs, k, b, hr, rfl, tup_of w ht, rfl⟩, .inr ⟨kvs, hr⟩, ?_⟩
    rcases val_get (k := k) hk' with ⟨h1, h2⟩ | ⟨i, y, x, h1, h2, h3, h4⟩
    · exact .inl ⟨h2, h1⟩
    · obtain ⟨y', e3, hy⟩ := it.2 i x h4
      rw [h3] at e3; cases e3
      exact .inr ⟨x, y, h2, h1, hy⟩
theorem DGet.step {H H' : Hp} {B A : List Addr} {F F' : Hp} {a : Addr} {kv : V} {o : Option V} (s : Step B A F H F' H') (g : DGet H a kv o) (ha : a ∉ B) (hb : ∀ b, kv = .ref b → b ∉ B) : DGet H' a kv o := by
  have rd : ∀ {u : HO}, Rd H a u → Rd H' a u := fun {u} r => r.imp (s.same a _ ha) fun ⟨ob, e⟩ => ⟨ob, s.same a _ ha e⟩
  rcases g with ⟨kvs, k, h1, h2, h3⟩ | ⟨kvs, k, b, h1, h2, h3, h4⟩
  · exact .inl ⟨kvs, k, rd h1, h2, h3⟩
  · exact .inr ⟨kvs, k, b, rd h1, h2, s.same b _ (hb b h2) h3, h4⟩
def gDGet (d k : D) (R : D → Prop) : Prop := ∃ x, lookD d k = some (some x) ∧ R x
def gDIn (n : Bool) (k d : D) (R : D → Prop) : Prop := ∃ o, lookD d k = some o ∧ R (.bl (n ^^ o.isSome))
section
variable {K : PySem.W.Frag} {m m1 m2 : Mode}
theorem op2_dget (hm : m.look = true) : Op2 K (fun x y H Q => ∃ a v, x = .ref a ∧ DGet H a y (some v) ∧ Q v H) m m2 m.child gDGet := by
  intro B F H x y d e fp R Q w ⟨f1, f2, ef, h1, h2⟩ hf ⟨z, hz, hR⟩ k
  subst ef
  have r2 := h2.rd w fun a ha => (hf.1 a (List.mem_append_right _ ha)).2
  obtain ⟨a, ov, rfl, g, _, h⟩ := look_ok (m := m) (mk := m2) (f2 := f2) hm w h1 r2 hz
  rcases h with ⟨q, _⟩ | ⟨x', y', e1, e2, hv⟩
  · cases q
  · cases e1
    rw [e2] at g
    exact ⟨a, y', rfl, g, k.val w hv hR⟩
theorem op2_din (hm : m.look = true) {n : Bool} : Op2 K (fun y x H Q => ∃ a o, x = .ref a ∧ DGet H a y o ∧ Q (.bl (n ^^ o.isSome)) H) m2 m m1 (gDIn n) := by
  intro B F H x y d e fp R Q w ⟨f1, f2, ef, h1, h2⟩ hf ⟨o, hz, hR⟩ k
  subst ef
  have r1 := h1.rd w fun a ha => (hf.1 a (List.mem_append_left _ ha)).2
  obtain ⟨a, ov, rfl, g, _, h⟩ := look_ok (m := m) (mk := m2) (f2 := f1) hm w h2 r1 hz
  refine ⟨a, ov, rfl, g, k.bl w ?_⟩
  rcases h with ⟨q, q'⟩ | ⟨x', y', e1, e2, hv⟩
  · rw [q'] ; rw [q] at hR; exact hR
  · rw [e2]; rw [e1] at hR; exact hR
end
section
variable {X : Cx} {a b c : Expr} {pos apos cpos : Pos} {m m0 m1 m2 m3 : Mode} {f f' f'' : FE}
/-- d[k] -/
theorem de_dget (hu : X.A.units + 1 < cLine) (ha : DE X B a m f) (hb : DE X B b m2 f') (hm : m.look = true := by rfl) (hs : NoSl b := by exact fun _ _ => rfl) : DE X B (.Subscript a b pos) m.child (fBin gDGet f f') :=
  PE.imp (pe_dget hu ha hb hs) fun _ _ _ q => tD_bin (r := fun x y H Q => ∃ a v, x = .ref a ∧ DGet H a y (some v) ∧ Q v H) (op2_dget hm) q
theorem tD_in {K : PySem.W.Frag} {σ : L2.St} {H : Hp} {Q : VK} {n : Bool} (hm : m.look = true) (q : tD K B m1 (fBin (gDIn n) f f') σ H Q) : tD K B m2 f σ H fun y H1 => tD K B m f' σ H1 fun x H2 => ∃ a o, x = .ref a ∧ DGet H2 a y o ∧ Q (.bl (n ^^ o.isSome)) H2 :=
  tD_bin (r := fun y x H Q => ∃ a o, x = .ref a ∧ DGet H a y o ∧ Q (.bl (n ^^ o.isSome)) H) (op2_din hm) q
theorem pc_din' {i o : Expr} {ty td : TE} (hu : X.A.units + 1 < cLine) (hi : PE X i ty) (ho : PE X o td) : PC X .In i o (fun σ H Q => ty σ H fun y H1 => td σ H1 fun x H2 => ∃ a o, x = .ref a ∧ DGet H2 a y o ∧ Q (.bl (false ^^ o.isSome)) H2) := by
  have h := pc_din hu hi ho
  unfold tDIn at h
  simpa using h
theorem pc_dnotin' {i o : Expr} {ty td : TE} (hu : X.A.units + 1 < cLine) (hi : PE X i ty) (ho : PE X o td) : PC X .NotIn i o (fun σ H Q => ty σ H fun y H1 => td σ H1 fun x H2 => ∃ a o, x = .ref a ∧ DGet H2 a y o ∧ Q (.bl (true ^^ o.isSome)) H2) := by
  have h := pc_dnotin hu hi ho
  unfold tDNotIn at h
  simpa using h
/-- k in d -/
theorem de_din (hu : X.A.units + 1 < cLine) (hb : DE X B b m2 f) (ha : DE X B a m f') (hm : m.look = true := by rfl) (h1 : behindInMarks .In a = false := by rfl) : DE X B (.Compare b [.In] [a] pos) m1 (fBin (gDIn false) f f') :=
  PE.imp (pe_cmp (pc_din' hu hb ha) h1) fun _ _ _ q => tD_in hm q
theorem de_dnotin (hu : X.A.units + 1 < cLine) (hb : DE X B b m2 f) (ha : DE X B a m f') (hm : m.look = true := by rfl) (h1 : behindInMarks .NotIn a = false := by rfl) : DE X B (.Compare b [.NotIn] [a] pos) m1 (fBin (gDIn true) f f') :=
  PE.imp (pe_cmp (pc_dnotin' hu hb ha) h1) fun _ _ _ q => tD_in hm q
theorem dt_din (hu : X.A.units + 1 < cLine) (hb : DE X B b m2 f) (ha : DE X B a m f') (hm : m.look = true := by rfl) (h1 : behindInMarks .In a = false := by rfl) : DT X B (.Compare b [.In] [a] pos) (fBool (fBin (gDIn false) f f')) :=
  PT.imp (pt_cmp (pc_din' hu hb ha) h1) fun _ _ _ q => tD_in (m1 := .rd) hm (tD_bool q)
theorem dt_dnotin (hu : X.A.units + 1 < cLine) (hb : DE X B b m2 f) (ha : DE X B a m f') (hm : m.look = true := by rfl) (h1 : behindInMarks .NotIn a = false := by rfl) : DT X B (.Compare b [.NotIn] [a] pos) (fBool (fBin (gDIn true) f f')) :=
  PT.imp (pt_cmp (pc_dnotin' hu hb ha) h1) fun _ _ _ q => tD_in (m1 := .rd) hm (tD_bool q)
/-- d.get(k, x): what is found and what stands in its place may be read -/
def gDGet2 (d k x : D) (R : D → Prop) : Prop := ∃ o, lookD d k = some o ∧ R (o.getD x)
def isDctD : D → Prop
  | .dK _ => True
  | .dT _ => True
  | _ => False
theorem isDctD.of {K : PySem.W.Frag} {B f1 : List Addr} {F H : Hp} {v : V} {d : D} (hm : m.look = true) (w : WF B F H) (hv : Val K m B F H v d f1) (h : isDctD d) : ∃ a, v = .ref a ∧ IsD H a ∧ a ∉ B := by
  have nb : ∀ {a : Addr}, (∃ u, rdH B H a = some u) → a ∉ B := fun ⟨u, e⟩ => (rdH_some e).1
  cases d <;> try exact (show False from h).elim
  · have r := hv.rd w (fun a ha => by
      obtain ⟨e, _⟩ := hv.dK hm w
      rw [e] at ha; cases ha)
    obtain ⟨a, kvs, rfl, hr, _⟩ := r.dKI
    exact ⟨a, rfl, .inl ⟨kvs, rd_of_rdH hr⟩, nb ⟨_, hr⟩⟩
  · have r := hv.rd w (fun a ha => by
      obtain ⟨e, _⟩ := hv.dT hm w
      rw [e] at ha; cases ha)
    obtain ⟨a, kvs, rfl, hr, _⟩ := r.dTI
    exact ⟨a, rfl, .inr ⟨kvs, rd_of_rdH hr⟩, nb ⟨_, hr⟩⟩
theorem look_isDct {d k : D} {o : Option D} (h : lookD d k = some o) : isDctD d := by
  cases d <;> first | trivial | (cases h)
theorem de_dget2 (hu : X.A.units + 1 < cLine) (ha : DE X B a m f) (hb : DE X B b .rd f') (hc : DE X B c m.child f'') (hm : m.look = true := by rfl) (hl : ∀ n, m.child ≠ .own (n + 1) := by intro _ z; cases z)
    (M : M2 X a "get" apos b c cpos := by exact ⟨rfl, rfl, rfl, rfl⟩) : DE X B (.Call (.Attribute a "get" apos) [b, c] [] cpos) m.child (fun ρ R => f ρ fun d => isDctD d ∧ f' ρ fun k => f'' ρ fun x => gDGet2 d k x R) :=
  PE.imp (pe_dget2 hu ha hb hc M) fun σ H Q ⟨F, ρ, fp, R, S, hf, k⟩ => by
    refine ⟨F, ρ, fp, _, S, hf, fun F1 H1 v d f1 s1 hv o1 n1 ⟨hd, hg⟩ => ?_⟩
    obtain ⟨a, rfl, hd', haB⟩ := isDctD.of hm s1.wf hv hd
    refine ⟨a, rfl, hd', F1, ρ, fp, _, S.step s1 (fun a ha => by cases ha), hg, fun F2 H2 kv kd f2 s2 hkv o2 n2 hg2 => ?_⟩
    refine ⟨F2, ρ, fp, _, (S.step s1 (fun a ha => by cases ha)).step s2 (fun a ha => by cases ha), hg2, fun F3 H3 xv xd f3 s3 hxv o3 n3 ⟨o, ho, hR⟩ => ?_⟩
    have hv3 := (hv.step s2 fun a ha => (o1 a ha).2.2).step s3 fun a ha => (o1 a ha).2.2
    have hk3 : GK.R X.K (rdH B H3) kv kd := hkv.1.mono (rdH_same s3.same)
    obtain ⟨a', ov, ea, g, _, h⟩ := look_ok (m := m) (mk := .rd) (f2 := []) hm s3.wf hv3 hk3 ho
    cases ea
    have k3 := ((k.after s1 (A1 := []) fun a h => by cases h).after s2 (A1 := []) fun a h => by cases h).after s3 (A1 := f3) fun a ha => (o3 a ha).1
    refine ⟨ov, g, ?_⟩
    rcases h with ⟨q, q'⟩ | ⟨x', y', e1, e2, hy⟩
    · rw [q']
      rw [q] at hR
      exact k3 F3 H3 xv xd f3 (Step.refl s3.wf) hxv (fun a ha => ⟨.inl ha, (o3 a ha).2⟩) n3 hR
    · rw [e2]
      rw [e1] at hR
      exact k3.val s3.wf hy hR
/-- {} -/
theorem de_dnewK (n : Nat) : DE X B (.Dict [] [] pos) (.own (n + 1)) (fun _ R => R (.dK [])) := PE.imp pe_dnewK fun σ H Q ⟨F, ρ, fp, R, S, hf, k⟩ p hp => by
  refine k F _ _ (.dK []) [p] (Step.laid S.wf hp rfl) ⟨p, [], [], rfl, upd_same, rfl, rfl, rfl⟩ (fun a ha => ?_) (by simp) hf
  have e : a = p := by simpa using ha
  subst e
  exact ⟨.inr hp, F_none S.wf hp, S.wf.notB hp⟩
theorem de_dnewT (n : Nat) : DE X B (.Dict [] [] pos) (.own (n + 1)) (fun _ R => R (.dT [])) := PE.imp pe_dnewT fun σ H Q ⟨F, ρ, fp, R, S, hf, k⟩ p hp => by
  refine k F _ _ (.dT []) [p] (Step.laid S.wf hp rfl) ⟨p, [], [], rfl, upd_same, rfl, rfl, rfl⟩ (fun a ha => ?_) (by simp) hf
  have e : a = p := by simpa using ha
  subst e
  exact ⟨.inr hp, F_none S.wf hp, S.wf.notB hp⟩
end
end GK

namespace GK
open PySem PySem.Spec PyProof.Rows L2

/-! ### calls of built-ins -/
section
variable {K : PySem.W.Frag} {m : Mode} {ms : List Mode} {σ : L2.St} {H : Hp}
theorem tD_args {r : List V → Hp → VK → Prop} {g : List D → (D → Prop) → Prop} {fs : FA} {Q : VK} (hr : OpN K r ms m g) (h : tD K B m (fArgs g fs) σ H Q) : tDA K B ms fs σ H fun vs H1 => r vs H1 Q := by
  obtain ⟨F, ρ, fp, R, S, hf, k⟩ := h
  exact ⟨F, ρ, fp, _, S, hf, fun F1 H1 vs ds fp1 s1 hv o1 n1 hg => hr B F1 H1 vs ds fp1 R Q s1.wf hv ⟨fun a ha => (o1 a ha).2, n1⟩ hg (k.after s1 fun a ha => (o1 a ha).1)⟩
end
section
variable {X : Cx} {e : Expr} {es : List Expr} {x : Str} {p pos apos cpos : Pos} {m m1 m2 : Mode} {ms : List Mode} {fs : FA} {f f' : FE} {id T : String} {r : List V → Hp → VK → Prop} {g : List D → (D → Prop) → Prop}
theorem de_B (hc : CallR X (.builtin id) r) (hr : OpN X.K r ms m g) (hg : Gl X x) (hm : X.mg x = none) (hv : bootBuiltins x = some (.builtin id)) (ha : DA X B (e :: es) ms fs) (hn : x ≠ "__name__" := by decide) (hdb : (x == ("__debug__" : Str)) = false := by decide)
    (he : starEach (e :: es) X.env = (false, eval e X.env) :: starEach es X.env := by rfl) (hpl : (backTo pos (starEach es X.env)).any (·.1) = false := by rfl) : DE X B (.Call (.Name x p) (e :: es) [] pos) m (fArgs g fs) :=
  PE.imp (pe_callB hc hg hm hv ha hn hdb he hpl) fun _ _ _ q => tD_args hr q
theorem de_Ty (hc : CallR X (.type T) r) (hr : OpN X.K r ms m g) (hg : Gl X x) (hm : X.mg x = none) (hv : bootBuiltins x = some (.type T)) (ha : DA X B (e :: es) ms fs) (hn : x ≠ "__name__" := by decide) (hdb : (x == ("__debug__" : Str)) = false := by decide)
    (he : starEach (e :: es) X.env = (false, eval e X.env) :: starEach es X.env := by rfl) (hpl : (backTo pos (starEach es X.env)).any (·.1) = false := by rfl) : DE X B (.Call (.Name x p) (e :: es) [] pos) m (fArgs g fs) :=
  PE.imp (pe_callTy hc hg hm hv ha hn hdb he hpl) fun _ _ _ q => tD_args hr q
/-- a built-in method that changes nothing of ours -/
def OpM (K : PySem.W.Frag) (T : String) (r : V → List V → Hp → VK → Prop) (m1 : Mode) (ms : List Mode) (m : Mode) (g0 : D → Prop) (g : D → List D → (D → Prop) → Prop) : Prop :=
  (∀ B F H x d fp, WF B F H → Val K m1 B F H x d fp → Fp B F fp → g0 d → tyV K T x H) ∧
  ∀ B F H x d vs ds fp R Q, WF B F H → (∃ f1 f2, fp = f1 ++ f2 ∧ Val K m1 B F H x d f1 ∧ ValL K B F H ms vs ds f2) → Fp B F fp → g d ds R → Post K B fp F H m R Q → r x vs H Q
theorem tD_meth {K : PySem.W.Frag} {σ : L2.St} {H : Hp} {Q : VK} {r : V → List V → Hp → VK → Prop} {g0 : D → Prop} {g : D → List D → (D → Prop) → Prop} (hr : OpM K T r m1 ms m g0 g) (h : tD K B m (fun ρ R => f ρ fun d => g0 d ∧ fs ρ fun ds => g d ds R) σ H Q) :
    tD K B m1 f σ H fun x H1 => tyV K T x H1 ∧ tDA K B ms fs σ H1 fun xs H2 => r x xs H2 Q := by
  obtain ⟨F, ρ, fp, R, S, hf, k⟩ := h
  refine ⟨F, ρ, fp, _, S, hf, fun F1 H1 v1 d1 fp1 s1 hv1 o1 n1 ⟨h0, hg1⟩ => ⟨hr.1 B F1 H1 v1 d1 fp1 s1.wf hv1 ⟨fun a ha => (o1 a ha).2, n1⟩ h0, ?_⟩⟩
  refine ⟨F1, ρ, fp, _, S.step s1 (fun a ha => by cases ha), hg1, fun F2 H2 v2 d2 fp2 s2 hv2 o2 n2 hg2 => ?_⟩
  have t1 := hv1.there
  have nn : ∀ a ∈ fp1, F2 a = none := fun a ha => by
    obtain ⟨o, e, mu⟩ := t1 a ha
    exact s2.out e mu (o1 a ha).2.2 (o1 a ha).2.1 fun z => by cases z
  refine hr.2 B F2 H2 v1 d1 v2 d2 (fp1 ++ fp2) R Q s2.wf ⟨fp1, fp2, rfl, hv1.step s2 fun a ha => (o1 a ha).2.2, hv2⟩ ⟨fun a ha => ?_, ?_⟩ hg2 ((k.after s1 (A1 := fp1) fun a ha => (o1 a ha).1).after (s2.weak fun a ha => by cases ha) fun a ha => ?_)
  · rcases List.mem_append.mp ha with z | z
    · exact ⟨nn a z, (o1 a z).2.2⟩
    · exact (o2 a z).2
  · refine List.nodup_append.mpr ⟨n1, n2, fun a ha b hb e => ?_⟩
    subst e
    obtain ⟨o, e, mu⟩ := t1 a ha
    rcases (o2 a hb).1 with z | z
    · cases z
    · rw [e] at z; cases z
  · rcases List.mem_append.mp ha with z | z
    · exact .inl z
    · exact .inr ((o2 a z).1.elim (fun z => by cases z) id)
theorem de_M {o : Expr} {name : Str} {r : V → List V → Hp → VK → Prop} {g0 : D → Prop} {g : D → List D → (D → Prop) → Prop} (pa : PlainAttrs T) (slot : Slot T name id) (hty : typeOf (.builtin id) = pure (.type "method_descriptor")) (hm : MtR X id r) (hr : OpM X.K T r m1 ms m g0 g)
    (ho : DE X B o m1 f) (ha : DA X B (e :: es) ms fs) (hb : BmOk X o name apos e es cpos := by exact ⟨rfl, rfl, rfl, rfl, rfl⟩) : DE X B (.Call (.Attribute o name apos) (e :: es) [] cpos) m (fun ρ R => f ρ fun d => g0 d ∧ fs ρ fun ds => g d ds R) :=
  PE.imp (pe_bm pa slot hty hm ho ha hb.1 hb.2 hb.3 hb.4 hb.5) fun _ _ _ q => tD_meth hr q
end
/-! ### len, int, max, min -/
def gLen : List D → (D → Prop) → Prop
  | [.lst ds], R => R (.int ds.length)
  | [.tup ds], R => R (.int ds.length)
  | [.str s], R => s.length ≤ sizeLine ∧ R (.int s.length)
  | [.dK es], R => R (.int es.length)
  | _, _ => False
def gInt : List D → (D → Prop) → Prop
  | [.int i], R => R (.int i)
  | _, _ => False
def gMax2 : List D → (D → Prop) → Prop
  | [.int i, .int j], R => R (.int (if j > i then j else i))
  | _, _ => False
def gMin2 : List D → (D → Prop) → Prop
  | [.int i, .int j], R => R (.int (if j < i then j else i))
  | _, _ => False
theorem ValL.one {K : PySem.W.Frag} {B fp : List Addr} {F H : Hp} {m : Mode} {vs : List V} {d : D} (h : ValL K B F H [m] vs [d] fp) : ∃ v, vs = [v] ∧ Val K m B F H v d fp := by
  cases vs with
  | nil => cases h
  | cons v r =>
    cases r with
    | nil =>
      obtain ⟨f1, f2, e, h1, h2⟩ := h
      have e2 : f2 = [] := h2
      subst e2
      rw [List.append_nil] at e
      subst e
      exact ⟨v, rfl, h1⟩
    | cons w r => obtain ⟨f1, f2, e, h1, h2⟩ := h; cases h2
theorem ValL.two {K : PySem.W.Frag} {B fp : List Addr} {F H : Hp} {m m' : Mode} {vs : List V} {d d' : D} (h : ValL K B F H [m, m'] vs [d, d'] fp) : ∃ v v' f f', vs = [v, v'] ∧ Val K m B F H v d f ∧ Val K m' B F H v' d' f' ∧ fp = f ++ f' := by
  cases vs with
  | nil => cases h
  | cons v r =>
    obtain ⟨f1, f2, e, h1, h2⟩ := h
    obtain ⟨v', rfl, h3⟩ := ValL.one h2
    exact ⟨v, v', f1, f2, rfl, h1, h3, e⟩
section
variable {X : Cx} {e e2 : Expr} {x : Str} {p pos apos cpos : Pos} {m m1 m2 : Mode} {fs : FA} {f f' : FE}
theorem call_lenK : CallR X (.builtin "len") (fun xs H Q => ∃ a kvs, xs = [.ref a] ∧ Rd H a (.dK kvs) ∧ Q (.int kvs.length) H) := by
  intro pins s σ H xs us Q I r h
  obtain ⟨a, kvs, rfl, h, q⟩ := h
  obtain ⟨u, rfl, rx⟩ := r.one
  obtain rfl : u = Value.ref a := rx
  exact d_len I h fun t s' I' => ⟨.int _, H, I', ⟨_, rfl⟩, q⟩
theorem call_len' : CallR X (.builtin "len") (fun xs H Q => (∃ p ys, xs = [.ref p] ∧ (SqL X.K H p ys ∨ SqT X.K H p ys) ∧ Q (.int ys.length) H) ∨ (∃ z, xs = [.str z] ∧ z.length ≤ sizeLine ∧ Q (.int z.length) H) ∨ ∃ a kvs, xs = [.ref a] ∧ Rd H a (.dK kvs) ∧ Q (.int kvs.length) H) :=
  call_len_seq.or (call_len_str.or call_lenK)
theorem opN_len {K : PySem.W.Frag} (hm : m1.look = true) : OpN K (fun xs H Q => (∃ p ys, xs = [.ref p] ∧ (SqL K H p ys ∨ SqT K H p ys) ∧ Q (.int ys.length) H) ∨ (∃ z, xs = [.str z] ∧ z.length ≤ sizeLine ∧ Q (.int z.length) H) ∨ ∃ a kvs, xs = [.ref a] ∧ Rd H a (.dK kvs) ∧ Q (.int kvs.length) H) [m1] m gLen := by
  intro B F H vs ds fp R Q w hv hf hg k
  unfold gLen at hg
  split at hg
  · obtain ⟨v, rfl, h⟩ := hv.one
    obtain ⟨_, a, ws, rfl, hs, it⟩ := h.lst hm w
    exact .inl ⟨a, ws, rfl, .inl hs, by rw [it.1]; exact k.int w hg⟩
  · obtain ⟨v, rfl, h⟩ := hv.one
    obtain ⟨_, a, ws, rfl, hs, it⟩ := h.tup hm w
    exact .inl ⟨a, ws, rfl, .inr hs, by rw [it.1]; exact k.int w hg⟩
  · obtain ⟨v, rfl, h⟩ := hv.one
    obtain ⟨rfl, _⟩ := h.str
    exact .inr (.inl ⟨_, rfl, hg.1, k.int w hg.2⟩)
  · obtain ⟨v, rfl, h⟩ := hv.one
    obtain ⟨_, a, kvs, rfl, hr, hk, it⟩ := h.dK hm w
    have hlen := congrArg List.length hk
    rw [List.length_map, List.length_map] at hlen
    exact .inr (.inr ⟨a, kvs, rfl, hr, by rw [hlen]; exact k.int w hg⟩)
  · exact hg.elim
theorem opN_int {K : PySem.W.Frag} : OpN K (fun xs H Q => (∃ i, xs = [.int i] ∧ Q (.int i) H) ∨ ∃ k, xs = [.bl k] ∧ Q (.int (if k then 1 else 0)) H) [m1] m gInt := by
  intro B F H vs ds fp R Q w hv hf hg k
  unfold gInt at hg
  split at hg
  · obtain ⟨v, rfl, h⟩ := hv.one
    obtain ⟨rfl, _⟩ := h.int
    exact .inl ⟨_, rfl, k.int w hg⟩
  · exact hg.elim
theorem opN_max2 {K : PySem.W.Frag} : OpN K (fun xs H Q => ∃ i j, xs = [.int i, .int j] ∧ Q (.int (if j > i then j else i)) H) [m1, m2] m gMax2 := by
  intro B F H vs ds fp R Q w hv hf hg k
  unfold gMax2 at hg
  split at hg
  · obtain ⟨v, v', f, f', rfl, h, h', _⟩ := hv.two
    obtain ⟨rfl, _⟩ := h.int
    obtain ⟨rfl, _⟩ := h'.int
    exact ⟨_, _, rfl, k.int w hg⟩
  · exact hg.elim
theorem opN_min2 {K : PySem.W.Frag} : OpN K (fun xs H Q => ∃ i j, xs = [.int i, .int j] ∧ Q (.int (if j < i then j else i)) H) [m1, m2] m gMin2 := by
  intro B F H vs ds fp R Q w hv hf hg k
  unfold gMin2 at hg
  split at hg
  · obtain ⟨v, v', f, f', rfl, h, h', _⟩ := hv.two
    obtain ⟨rfl, _⟩ := h.int
    obtain ⟨rfl, _⟩ := h'.int
    exact ⟨_, _, rfl, k.int w hg⟩
  · exact hg.elim
theorem de_len (hz : X.mg "len" = none) (ha : DE X B e m1 f) (hm : m1.look = true := by rfl) (hg : Gl X "len" := by rfl) (he : starEach [e] X.env = (false, eval e X.env) :: starEach [] X.env := by rfl) (hpl : (backTo pos (starEach [] X.env)).any (·.1) = false := by rfl) :
    DE X B (.Call (.Name "len" p) [e] [] pos) m (fArgs gLen (fCons f fNil)) := de_B call_len' (opN_len hm) hg hz PySem.boot_len (da_cons ha da_nil he) (by decide) (by decide) he hpl
theorem de_int' (hz : X.mg "int" = none) (ha : DE X B e m1 f) (hg : Gl X "int" := by rfl) (he : starEach [e] X.env = (false, eval e X.env) :: starEach [] X.env := by rfl) (hpl : (backTo pos (starEach [] X.env)).any (·.1) = false := by rfl) :
    DE X B (.Call (.Name "int" p) [e] [] pos) m (fArgs gInt (fCons f fNil)) := de_Ty call_int1 opN_int hg hz (by decide +kernel) (da_cons ha da_nil he) (by decide) (by decide) he hpl
theorem de_max2 (hc : X.calm = true) (hz : X.mg "max" = none) (ha : DE X B e m1 f) (hb : DE X B e2 m2 f') (hg : Gl X "max" := by rfl) (he : starEach [e, e2] X.env = (false, eval e X.env) :: starEach [e2] X.env := by rfl) (he2 : starEach [e2] X.env = (false, eval e2 X.env) :: starEach [] X.env := by rfl) (hpl : (backTo pos (starEach [e2] X.env)).any (·.1) = false := by rfl) :
    DE X B (.Call (.Name "max" p) [e, e2] [] pos) m (fArgs gMax2 (fCons f (fCons f' fNil))) := de_B (call_max2 hc) opN_max2 hg hz (by decide +kernel) (da_cons ha (da_cons hb da_nil he2) he) (by decide) (by decide) he hpl
theorem de_min2 (hc : X.calm = true) (hz : X.mg "min" = none) (ha : DE X B e m1 f) (hb : DE X B e2 m2 f') (hg : Gl X "min" := by rfl) (he : starEach [e, e2] X.env = (false, eval e X.env) :: starEach [e2] X.env := by rfl) (he2 : starEach [e2] X.env = (false, eval e2 X.env) :: starEach [] X.env := by rfl) (hpl : (backTo pos (starEach [e2] X.env)).any (·.1) = false := by rfl) :
    DE X B (.Call (.Name "min" p) [e, e2] [] pos) m (fArgs gMin2 (fCons f (fCons f' fNil))) := de_B (call_min2 hc) opN_min2 hg hz (by decide +kernel) (da_cons ha (da_cons hb da_nil he2) he) (by decide) (by decide) he hpl
end

/-! ### lists whose items may be read, and new ones -/
/-- the items of a list may be read -/
def Mode.flat1 : Mode → Bool
  | .own 0 => true
  | .bor 0 => true
  | .bor 1 => true
  | _ => false
theorem Val.lstRL {K : PySem.W.Frag} {B fp : List Addr} {F H : Hp} {m : Mode} {v : V} {ds : List D} (hm : m.flat1 = true) (w : WF B F H) (h : Val K m B F H v (.lst ds) fp) : ∃ a vs, v = .ref a ∧ H a = some (.lst vs) ∧ RL K F vs ds := by
  cases m with
  | rd => cases hm
  | own n =>
    cases n with
    | zero =>
      obtain ⟨a, vs, e, h1, r⟩ := h.1.lstI
      exact ⟨a, vs, e, lst_of w (w.sub _ _ h1), r⟩
    | succ n => cases hm
  | bor n =>
    obtain ⟨⟨f, h, hf⟩, e0⟩ := h
    cases n with
    | zero =>
      obtain ⟨a, vs, e, h1, r⟩ := h.1.lstI
      exact ⟨a, vs, e, lst_of w (w.sub _ _ h1), r⟩
    | succ n =>
      cases n with
      | zero =>
        obtain ⟨a, vs, g, e, h1, ef, t⟩ := h
        exact ⟨a, vs, e, h1, t.toRL0⟩
      | succ n => cases hm
def gCat : D → D → (D → Prop) → Prop
  | .lst xs, .lst ys, R => xs.length + ys.length ≤ sizeLine ∧ R (.lst (xs ++ ys))
  | _, _, _ => False
def gRep : D → D → (D → Prop) → Prop
  | .lst xs, .int k, R => -(2 ^ 63) ≤ k ∧ k < 2 ^ 63 ∧ xs.length * k.toNat ≤ sizeLine ∧ R (.lst (List.replicate k.toNat xs).flatten)
  | _, _, _ => False
theorem RL.rep {K : PySem.W.Frag} {F : Hp} {vs : List V} {ds : List D} (h : RL K F vs ds) : ∀ n : Nat, RL K F (List.replicate n vs).flatten (List.replicate n ds).flatten
  | 0 => .nil
  | n + 1 => by
    rw [List.replicate_succ, List.replicate_succ, List.flatten_cons, List.flatten_cons]
    exact h.append (RL.rep h n)
section
variable {X : Cx} {a b : Expr} {pos : Pos} {m m1 m2 : Mode} {f f' : FE}
/-- xs + ys -/
theorem de_cat (ha : DE X B a m1 f) (hb : DE X B b m2 f') (h1 : m1.flat1 = true := by rfl) (h2 : m2.flat1 = true := by rfl) : DE X B (.BinOp a .Add b pos) (.own 1) (fBin gCat f f') := de_op op_cat (by
  intro B F H x y d e fp R Q w ⟨f1, f2, ef, hx, hy⟩ _ hg k
  cases d <;> cases e <;> try exact (show False from hg).elim
  obtain ⟨p, vs, rfl, hp, r⟩ := hx.lstRL h1 w
  obtain ⟨q, ws, rfl, hq, t⟩ := hy.lstRL h2 w
  exact ⟨p, q, vs, ws, rfl, rfl, hp, hq, by rw [r.length, t.length]; exact hg.1, fun z hz => k.newLst0 w (r.append t) hg.2 hz⟩) ha hb
/-- xs * n -/
theorem de_rep (ha : DE X B a m1 f) (hb : DE X B b m2 f') (h1 : m1.flat1 = true := by rfl) : DE X B (.BinOp a .Mult b pos) (.own 1) (fBin gRep f f') := de_op op_rep (by
  intro B F H x y d e fp R Q w ⟨f1, f2, ef, hx, hy⟩ _ hg k
  cases d <;> cases e <;> try exact (show False from hg).elim
  obtain ⟨p, vs, rfl, hp, r⟩ := hx.lstRL h1 w
  obtain ⟨rfl, _⟩ := hy.int
  exact ⟨p, _, vs, rfl, rfl, hp, hg.1, hg.2.1, by rw [r.length]; exact hg.2.2.1, fun z hz => k.newLst0 w (r.rep _) hg.2.2.2 hz⟩) ha hb
end
/-! slices -/
abbrev FO := Env → (Option Int → Prop) → Prop
def tDO (K : PySem.W.Frag) (B : List Addr) (f : FO) : TO := fun σ H Q => ∃ F ρ fp R, StOk K B [] noH noH F H σ ρ fp ∧ f ρ R ∧ ∀ F' H' o, Step B [] F H F' H' → R o → Q o H'
abbrev DO (X : Cx) (B : List Addr) (e : Option Expr) (f : FO) : Prop := PO X e (tDO X.K B f)
theorem PO.imp {X : Cx} {e : Option Expr} {t t' : TO} (h : PO X e t) (k : ∀ σ H Q, t' σ H Q → t σ H Q) : PO X e t' := ⟨fun pins s σ H Q I q => h.run pins s σ H Q I (k σ H Q q)⟩
def cutD (xs : List D) (lo hi : Option Int) : List D := (xs.drop (HT.sIx xs.length 0 lo)).take (HT.sIx xs.length xs.length hi - HT.sIx xs.length 0 lo)
def iOf (R : Option Int → Prop) : D → Prop
  | .int i => R (some i)
  | _ => False
section
variable {X : Cx} {e : Expr} {lo hi : Option Expr} {pos p2 : Pos} {m m1 : Mode} {f : FE} {fl fh : FO}
theorem do_none : DO X B none (fun _ R => R none) := PO.imp po_none fun σ H Q ⟨F, ρ, fp, R, S, hf, k⟩ => k F H none (Step.refl S.wf) hf
theorem do_some (h : DE X B e m f) : DO X B (some e) (fun ρ R => f ρ (iOf R)) := PO.imp (po_some h) fun σ H Q ⟨F, ρ, fp, R, S, hf, k⟩ => ⟨F, ρ, fp, _, S, hf, fun F' H' v d f' s hv ho hn hR => by
  cases d <;> try exact (show False from hR).elim
  obtain ⟨rfl, _⟩ := hv.int
  exact ⟨_, rfl, k F' H' _ s hR⟩⟩
def gSlL (d : D) (lo hi : Option Int) (R : D → Prop) : Prop := match d with
  | .lst xs => R (.lst (cutD xs lo hi))
  | _ => False
def gSlT (d : D) (lo hi : Option Int) (R : D → Prop) : Prop := match d with
  | .tup xs => R (.tup (cutD xs lo hi))
  | _ => False
def gSlS (d : D) (lo hi : Option Int) (R : D → Prop) : Prop := match d with
  | .str z => z.length ≤ sizeLine ∧ R (.str (cutS z lo hi))
  | _ => False
theorem cut_rl {K : PySem.W.Frag} {F : Hp} {vs : List V} {ds : List D} (h : RL K F vs ds) (lo hi : Option Int) : RL K F (cutV vs lo hi) (cutD ds lo hi) := by
  unfold cutV cutD
  rw [h.length]
  exact (h.drop _).take _
theorem tD_slice {K : PySem.W.Frag} {σ : L2.St} {H : Hp} {Q : VK} {r : V → Option Int → Option Int → Hp → VK → Prop} {g : D → Option Int → Option Int → (D → Prop) → Prop}
    (hr : ∀ B F H x d fp lo hi R Q, WF B F H → Val K m1 B F H x d fp → Fp B F fp → g d lo hi R → Post K B fp F H m R Q → r x lo hi H Q)
    (h : tD K B m (fun ρ R => f ρ fun d => fl ρ fun lo => fh ρ fun hi => g d lo hi R) σ H Q) : tD K B m1 f σ H fun x H1 => tDO K B fl σ H1 fun l H2 => tDO K B fh σ H2 fun u H3 => r x l u H3 Q := by
  obtain ⟨F, ρ, fp, R, S, hf, k⟩ := h
  refine ⟨F, ρ, fp, _, S, hf, fun F1 H1 v d fp1 s1 hv o1 n1 hg => ?_⟩
  refine ⟨F1, ρ, fp, _, S.step s1 (fun a ha => by cases ha), hg, fun F2 H2 lo s2 hg2 => ?_⟩
  refine ⟨F2, ρ, fp, _, (S.step s1 (fun a ha => by cases ha)).step s2 (fun a ha => by cases ha), hg2, fun F3 H3 hi s3 hg3 => ?_⟩
  have t1 := hv.there
  have s23 := s2.trans s3 fun a ha => by cases ha
  refine hr B F3 H3 v d fp1 lo hi R Q s3.wf (hv.step s23 fun a ha => (o1 a ha).2.2) ⟨fun a ha => ?_, n1⟩ hg3 ((k.after s1 (A1 := fp1) fun a ha => (o1 a ha).1).after (s23.weak fun a ha => by cases ha) fun a ha => .inl ha)
  obtain ⟨o, e, mu⟩ := t1 a ha
  exact ⟨s23.out e mu (o1 a ha).2.2 (o1 a ha).2.1 (fun z => (by cases z)), (o1 a ha).2.2⟩
/-- xs[lo:hi] -/
theorem de_slL (he : DE X B e m1 f) (hl : DO X B lo fl) (hh : DO X B hi fh) (h1 : m1.flat1 = true := by rfl) : DE X B (.Subscript e (.Slice lo hi none p2) pos) (.own 1) (fun ρ R => f ρ fun d => fl ρ fun lo => fh ρ fun hi => gSlL d lo hi R) :=
  PE.imp (pe_slice sl_list he hl hh) fun _ _ _ q => tD_slice (m := .own 1) (r := rSlL X.K) (g := gSlL) (by
    intro B F H x d fp lo hi R Q w hv hf hg k
    cases d <;> try exact (show False from hg).elim
    obtain ⟨p, vs, rfl, hp, r⟩ := hv.lstRL h1 w
    exact ⟨p, vs, rfl, SqL.of hp, fun z hz => k.newLst0 w (cut_rl r lo hi) hg hz⟩) q
theorem de_slS (he : DE X B e m1 f) (hl : DO X B lo fl) (hh : DO X B hi fh) : DE X B (.Subscript e (.Slice lo hi none p2) pos) m (fun ρ R => f ρ fun d => fl ρ fun lo => fh ρ fun hi => gSlS d lo hi R) :=
  PE.imp (pe_slice sl_str he hl hh) fun _ _ _ q => tD_slice (m := m) (r := rSlS) (g := gSlS) (by
    intro B F H x d fp lo hi R Q w hv hf hg k
    cases d <;> try exact (show False from hg).elim
    obtain ⟨rfl, _⟩ := hv.str
    exact ⟨_, rfl, hg.1, k.str w hg.2⟩) q
end
end GK

namespace GK
open PySem PySem.Spec PyProof.Rows L2

/-! ### targets -/
def tgN (i : Nat) : D → Env → Option Env := fun d ρ => if i < ρ.length then some (ρ.set i (some (0, d))) else none
def tgL : List Nat → List D → Env → Option Env
  | [], [], ρ => some ρ
  | i :: is, d :: ds, ρ => if i < ρ.length then tgL is ds (ρ.set i (some (0, d))) else none
  | _, _, _ => none
def tgT (is : List Nat) : D → Env → Option Env := fun d ρ => match d with
  | .tup ds => tgL is ds ρ
  | _ => none
section
variable {X : Cx} {pin i : Nat} {x : Str} {pos : Pos}
theorem dg_name (i : Nat) (hN : X.N.Nodup) (hi : X.N[i]? = some x) (hx : Loc X.env.scope x) (hp : pin ≤ i) (hf : X.fn x = true ∨ X.env.scope.names.lookup x = some .local := by first | exact .inl rfl | exact .inr rfl | assumption) : DG X pin (.Name x pos) (tgN i) :=
  ⟨gName i, pg_name hN hi hx hf, fun B Pn Z0 F0 F H σ ρ ρ' fp v d hpl S r e Q k => by
    unfold tgN at e
    split at e
    · rename_i hi'
      cases e
      obtain ⟨fp', S'⟩ := S.set (n := 0) (f := []) (i := i) ⟨r, rfl⟩ .nil hi' (by omega)
      exact k _ fp' S'
    · cases e⟩
/-- several -/
structure DGs (X : Cx) (pin : Nat) (ts : List Expr) (is : List Nat) : Prop where
  ok : ∃ g : TGs, PGs X ts g ∧ ∀ (B : List Addr) (Pn : List V) (Z0 F0 F H : Hp) (σ : L2.St) (ρ ρ' : Env) (fp : List Addr) (vs : List V) (ds : List D), Pn.length = pin → StOk X.K B Pn Z0 F0 F H σ ρ fp → RL X.K F vs ds → tgL is ds ρ = some ρ' →
    ∀ Q : L2.St → Hp → Prop, (∀ σ' fp', StOk X.K B Pn Z0 F0 F H σ' ρ' fp' → Q σ' H) → g vs σ H Q
theorem dgs_nil : DGs X pin [] [] := ⟨gNil, pgs_nil, fun B Pn Z0 F0 F H σ ρ ρ' fp vs ds hpl S r e Q k => by
  cases r with
  | nil => cases e; exact ⟨rfl, k σ fp S⟩
  | cons h t => cases e⟩
theorem dgs_cons {is : List Nat} {es : List Expr} (i : Nat) (hN : X.N.Nodup) (hi : X.N[i]? = some x) (hx : Loc X.env.scope x) (hp : pin ≤ i) (h : DGs X pin es is) (hf : X.fn x = true ∨ X.env.scope.names.lookup x = some .local := by first | exact .inl rfl | exact .inr rfl | assumption)
    (hs : (assignEach (.Name x pos :: es) X.env).map (·.2) = assign (.Name x pos) X.env :: (assignEach es X.env).map (·.2) := by rfl) : DGs X pin (.Name x pos :: es) (i :: is) := by
  obtain ⟨g, pg, kg⟩ := h.ok
  refine ⟨_, pgs_cons (pg_name hN hi hx hf) pg hs, fun B Pn Z0 F0 F H σ ρ ρ' fp vs ds hpl S r e Q k => ?_⟩
  cases r with
  | nil => cases e
  | cons h t =>
    unfold tgL at e
    split at e
    · rename_i hi'
      obtain ⟨fp', S'⟩ := S.set (n := 0) (f := []) (i := i) ⟨h, rfl⟩ .nil hi' (by omega)
      exact ⟨_, _, rfl, kg B Pn Z0 F0 F H _ _ ρ' fp' _ _ hpl S' t e Q k⟩
    · cases e
theorem tgL_len : ∀ {is : List Nat} {ds : List D} {ρ ρ' : Env}, tgL is ds ρ = some ρ' → ds.length = is.length
  | [], [], _, _, _ => rfl
  | i :: is, d :: ds, ρ, ρ', e => by
    unfold tgL at e
    split at e
    · rw [List.length_cons, List.length_cons, tgL_len e]
    · cases e
  | [], _ :: _, _, _, e => by cases e
  | _ :: _, [], _, _, e => by cases e
theorem dg_tup {is : List Nat} {es : List Expr} {k : Nat} (hc : X.calm = true) (h : DGs X pin es is) (hn : (assignEach es X.env).length = is.length := by rfl) (hst : (assignEach es X.env).findIdx? (·.1) = none := by rfl) : DG X pin (.Tuple es k pos) (tgT is) := by
  obtain ⟨g, pg, kg⟩ := h.ok
  refine ⟨_, pg_tup hc pg hn hst, fun B Pn Z0 F0 F H σ ρ ρ' fp v d hpl S r e Q k => ?_⟩
  unfold tgT at e
  cases d <;> try (cases e; done)
  obtain ⟨a, vs, rfl, ht, rl⟩ := r.tupI
  exact ⟨a, vs, rfl, tup_sub S.wf ht, by rw [rl.length]; exact tgL_len e, kg B Pn Z0 F0 F H σ ρ ρ' fp vs _ hpl S rl e Q k⟩
end

/-! ### what is walked -/
def xsOf (R : List D → Prop) : D → Prop
  | .lst xs => R xs
  | _ => False
def tsOf (R : List D → Prop) : D → Prop
  | .tup xs => R xs
  | _ => False
def seqOf (R : List D → Prop) : D → Prop
  | .lst xs => R xs
  | .tup xs => R xs
  | _ => False
section
variable {K : PySem.W.Frag} {B fp : List Addr} {F F1 H H1 : Hp}
theorem protF {F1 H1 : Hp} (hF : ∀ a ∈ fp, F1 a = none) (w : WF B F1 H1) {a : Addr} {u : HO} (h : F1 a = some u) : ∃ x, prot B fp H1 a = some x ∧ erO x = u := by
  obtain ⟨hb, x, e, n⟩ := rdH_some (w.sub a u h)
  refine ⟨x, ?_, n⟩
  rw [prot_out (fun hf => ?_) hb]
  · exact e
  · rw [hF a hf] at h; cases h
theorem itD_list {a : Addr} {vs : List V} {xs : List D} (hF : ∀ a ∈ fp, F1 a = none) (w : WF B F1 H1) (h : F1 a = some (.lst vs)) (r : RL K F1 vs xs) : ItD K B (prot B fp H1) F1 (Itl K a) xs := by
  intro i F H w' sz sf
  obtain ⟨x, ex, er⟩ := protF hF w h
  have hs : SqL K H a vs := .inl (rd_of_er (sz a x ex) er)
  have rl := r.mono sf
  refine ⟨fun hi => ?_, fun hi => ⟨vs, hs, by rw [r.length]; exact hi⟩⟩
  have hi' : i < vs.length := by rw [r.length]; exact hi
  refine ⟨⟨vs, vs[i], hs, by simp [hi']⟩, fun y H' ⟨e, hy⟩ => ?_⟩
  subst e
  obtain ⟨d, ed, rd⟩ := rl.getV (hy vs hs)
  exact ⟨F, d, ed, Step.refl w', rd⟩
theorem itD_tup {a : Addr} {vs : List V} {xs : List D} (hF : ∀ a ∈ fp, F1 a = none) (w : WF B F1 H1) (h : F1 a = some (.tup vs)) (r : RL K F1 vs xs) : ItD K B (prot B fp H1) F1 (Itt K a) xs := by
  intro i F H w' sz sf
  obtain ⟨x, ex, er⟩ := protF hF w h
  have hs : SqT K H a vs := .inl (rd_of_er (sz a x ex) er)
  have rl := r.mono sf
  refine ⟨fun hi => ?_, fun hi => ⟨vs, hs, by rw [r.length]; exact hi⟩⟩
  have hi' : i < vs.length := by rw [r.length]; exact hi
  refine ⟨⟨vs, vs[i], hs, by simp [hi']⟩, fun y H' ⟨e, hy⟩ => ?_⟩
  subst e
  obtain ⟨d, ed, rd⟩ := rl.getV (hy vs hs)
  exact ⟨F, d, ed, Step.refl w', rd⟩
/-- 0, 1, .. -/
def rangeD (lo : Int) (n : Nat) : List D := (List.range n).map fun i : Nat => D.int (lo + (i : Int))
theorem itD_rng {Z : Hp} {lo : Int} {n : Nat} : ItD K B Z F1 (Itr lo n) (rangeD lo n) := by
  intro i F H w' sz sf
  unfold rangeD
  rw [List.length_map, List.length_range]
  refine ⟨fun hi => ⟨hi, fun y H' ⟨e, hy⟩ => ?_⟩, fun hi => hi⟩
  subst e
  subst hy
  exact ⟨F, .int (lo + i), by simp [hi], Step.refl w', .int _⟩
end
section
variable {X : Cx} {tg e e2 : Expr} {pos p : Pos} {m m2 : Mode} {f f' : FE}
theorem outF {K : PySem.W.Frag} {B fp : List Addr} {Pn : List V} {Z0 F0 F H : Hp} {σ : L2.St} {ρ : Env} (S : StOk K B Pn Z0 F0 F H σ ρ fp) : ∀ a ∈ fp, F a = none := fun a ha => (S.out a ha).1
theorem di_list (h : DE X B e (.own 0) f) : DI X B tg e (fun ρ R => f ρ (xsOf R)) := PI.imp (pi_list h) fun σ H R ⟨F, ρ, fp, Rx, S, hf, k⟩ => ⟨F, ρ, fp, _, S, hf, fun F1 H1 v d f1 s1 hv o1 n1 hR => by
  cases d <;> try exact (show False from hR).elim
  obtain ⟨a, vs, rfl, h1, r⟩ := hv.1.lstI
  exact ⟨a, rfl, ⟨vs, lst_sub s1.wf h1⟩, k _ F1 H1 _ s1 (itD_list (outF (S.step s1 fun a h => by cases h)) s1.wf h1 r) hR⟩⟩
theorem di_tup (h : DE X B e (.own 0) f) : DI X B tg e (fun ρ R => f ρ (tsOf R)) := PI.imp (pi_tup h) fun σ H R ⟨F, ρ, fp, Rx, S, hf, k⟩ => ⟨F, ρ, fp, _, S, hf, fun F1 H1 v d f1 s1 hv o1 n1 hR => by
  cases d <;> try exact (show False from hR).elim
  obtain ⟨a, vs, rfl, h1, r⟩ := hv.1.tupI
  exact ⟨a, rfl, ⟨vs, tup_sub s1.wf h1⟩, k _ F1 H1 _ s1 (itD_tup (outF (S.step s1 fun a h => by cases h)) s1.wf h1 r) hR⟩⟩
def rng1 (R : List D → Prop) : D → Prop
  | .int n => -(2 ^ 62) ≤ n ∧ n < 2 ^ 62 ∧ R (rangeD 0 n.toNat)
  | _ => False
def rng2 (R : List D → Prop) : D → D → Prop
  | .int i, .int j => (-(2 ^ 62) ≤ i ∧ i < 2 ^ 62 ∧ -(2 ^ 62) ≤ j ∧ j < 2 ^ 62) ∧ R (rangeD i (j - i).toNat)
  | _, _ => False
theorem di_range (hz : X.mg "range" = none) (h : DE X B e m f) (hg : Gl X "range" := by rfl) (hs : starEach [e] X.env = [(false, eval e X.env)] := by rfl) (hs' : starEach [e] X.env = (false, eval e X.env) :: starEach [] X.env := by rfl) : DI X B tg (.Call (.Name "range" p) [e] [] pos) (fun ρ R => f ρ (rng1 R)) :=
  PI.imp (pi_range1 hg hz (da_cons h da_nil hs') hs) fun σ H R ⟨F, ρ, fp, Rx, S, hf, k⟩ => ⟨F, ρ, fp, fun ds => ∃ d, ds = [d] ∧ rng1 Rx d, S, by
    show f ρ fun x => ∃ d, [x] = [d] ∧ rng1 Rx d
    have : (fun x => ∃ d, [x] = [d] ∧ rng1 Rx d) = rng1 Rx := by
      funext x
      exact propext ⟨fun ⟨d, e, h⟩ => by cases e; exact h, fun h => ⟨x, rfl, h⟩⟩
    rw [this]; exact hf, fun F1 H1 vs ds f1 s1 hv o1 n1 ⟨d, ed, hR⟩ => by
    subst ed
    obtain ⟨v, rfl, h1⟩ := hv.one
    cases d <;> try exact (show False from hR).elim
    obtain ⟨rfl, _⟩ := h1.int
    exact ⟨_, rfl, hR.1, hR.2.1, k _ F1 H1 _ s1 itD_rng hR.2.2⟩⟩
theorem di_range2 (hz : X.mg "range" = none) (h : DE X B e m f) (h' : DE X B e2 m2 f') (hg : Gl X "range" := by rfl) (hs : starEach [e, e2] X.env = [(false, eval e X.env), (false, eval e2 X.env)] := by rfl) (hs2 : starEach [e2] X.env = [(false, eval e2 X.env)] := by rfl)
    (hs' : starEach [e, e2] X.env = (false, eval e X.env) :: starEach [e2] X.env := by rfl) (hs2' : starEach [e2] X.env = (false, eval e2 X.env) :: starEach [] X.env := by rfl) : DI X B tg (.Call (.Name "range" p) [e, e2] [] pos) (fun ρ R => f ρ fun x => f' ρ fun y => rng2 R x y) :=
  PI.imp (pi_range2 hg hz (da_cons h (da_cons h' da_nil hs2') hs') hs hs2) fun σ H R ⟨F, ρ, fp, Rx, S, hf, k⟩ => ⟨F, ρ, fp, fun ds => ∃ d d', ds = [d, d'] ∧ rng2 Rx d d', S, by
    show f ρ fun x => f' ρ fun y => ∃ d d', [x, y] = [d, d'] ∧ rng2 Rx d d'
    have : (fun x => f' ρ fun y => ∃ d d', [x, y] = [d, d'] ∧ rng2 Rx d d') = fun x => f' ρ fun y => rng2 Rx x y := by
      funext x
      congr 1
      funext y
      exact propext ⟨fun ⟨d, d', e, h⟩ => by cases e; exact h, fun h => ⟨x, y, rfl, h⟩⟩
    rw [this]; exact hf, fun F1 H1 vs ds f1 s1 hv o1 n1 ⟨d, d', ed, hR⟩ => by
    subst ed
    obtain ⟨v, v', g, g', rfl, h1, h2, _⟩ := hv.two
    cases d <;> cases d' <;> try exact (show False from hR).elim
    obtain ⟨rfl, _⟩ := h1.int
    obtain ⟨rfl, _⟩ := h2.int
    exact ⟨_, _, rfl, hR.1, k _ F1 H1 _ s1 itD_rng hR.2⟩⟩
end
end GK

namespace GK
open PySem PySem.Spec PyProof.Rows L2

/-! ### a for over a dict: it is locked meanwhile -/
section
variable {X : Cx} {st : Stmt} {e : Expr} {t : TS} {te : TE}
def unlQ (X : Cx) (Q : VK) : VK := fun v H => Q v H ∨ ∃ d od u, H d = some (.frz od u) ∧ (∀ o' u', X.H_0 d ≠ some (.frz o' u')) ∧ Q v (upd H d u)
def unlS (X : Cx) (Q : L2.St → Hp → Prop) : L2.St → Hp → Prop := fun σ H => Q σ H ∨ ∃ d od u, H d = some (.frz od u) ∧ (∀ o' u', X.H_0 d ≠ some (.frz o' u')) ∧ Q σ (upd H d u)
def unlEnds (X : Cx) (D : Ends) : Ends := ⟨unlS X D.nx, unlQ X D.rt, unlS X D.bk, unlS X D.ct⟩
theorem ps_unl (h : PS X st t) : PS X st (fun D σ H => t (unlEnds X D) σ H) := ⟨fun pins s σ H D I q => thn (h.run pins s σ H (unlEnds X D) I q) fun f s' hs => by
  have go : ∀ {Q : L2.St → Hp → Prop}, (∃ σ' H', L2.Inv X pins σ' H' s' ∧ unlS X Q σ' H') → ∃ σ' H', L2.Inv X pins σ' H' s' ∧ Q σ' H' := fun {Q} ⟨σ', H', I', q⟩ => by
    rcases q with q | ⟨d, od, u, h1, h2, q⟩
    · exact ⟨σ', H', I', q⟩
    · exact ⟨σ', _, I'.unlock h1 h2, q⟩
  cases f with
  | next => exact go hs
  | brk => exact go hs
  | cont => exact go hs
  | ret u =>
    obtain ⟨v, σ', H', I', r, q⟩ := hs
    rcases q with q | ⟨d, od, u, h1, h2, q⟩
    · exact ⟨v, σ', H', I', r, q⟩
    · exact ⟨v, σ', _, I'.unlock h1 h2, r, q⟩⟩
theorem pe_unl (h : PE X e te) : PE X e (fun σ H Q => te σ H (unlQ X Q)) := ⟨fun pins s σ H Q I q => thn (h.run pins s σ H _ I q) fun v s' ⟨x, H', I', r, q⟩ => by
  rcases q with q | ⟨d, od, u, h1, h2, q⟩
  · exact ⟨x, H', I', r, q⟩
  · exact ⟨x, _, I'.unlock h1 h2, r, q⟩⟩
theorem pe_lockA (h : PE X e te) : PE X e (fun σ H Q => te σ H fun x H1 => Q x H1 ∨ ∃ d u, H1 d = some u ∧ Mut (some u) ∧ ∀ od, (∀ o' u', X.H_0 d ≠ some (.frz o' u')) → Q x (upd H1 d (.frz od u))) :=
  ⟨fun pins s σ H Q I q => thn (h.run pins s σ H _ I q) fun v s' ⟨x, H', I', r, q⟩ => by
    rcases q with q | ⟨d, u, h1, mu, k⟩
    · exact ⟨x, H', I', r, q⟩
    · obtain ⟨od, I2⟩ := I'.lock h1 mu
      exact ⟨x, _, I2, r, k od (I'.nofrz h1 mu)⟩⟩
end
section
variable {K : PySem.W.Frag} {B fp : List Addr} {Pn : List V} {Z0 F0 F F1 H H1 : Hp} {σ : L2.St} {ρ : Env}
/-- the loop itself, from a base of its own -/
theorem for_core {X : Cx} {pin : Nat} {mr : Mode} {gb : FS} {t : D → Env → Option Env} {g : TG} {J : It} {xs : List D} {E : DEnds} {Dn : Ends} {Z1 : Hp} (hpl : Pn.length = pin)
    (kg : ∀ (B : List Addr) (Pn : List V) (Z0 F0 F H : Hp) (σ : L2.St) (ρ ρ' : Env) (fp : List Addr) (v : V) (d : D), Pn.length = pin → StOk X.K B Pn Z0 F0 F H σ ρ fp → R X.K F v d → t d ρ = some ρ' →
      ∀ Q : L2.St → Hp → Prop, (∀ σ' fp', StOk X.K B Pn Z0 F0 F H σ' ρ' fp' → Q σ' H) → g v σ H Q)
    (S : StOk X.K B Pn Z1 F1 F1 H1 σ ρ fp) (it : ItD X.K B Z1 F1 J xs) (hx : forD t gb xs E ρ) (L : Links X.K B Pn Z1 F1 mr E Dn) :
    ∃ W : Nat → Nat → L2.St → Hp → Prop, (∃ m, W 0 m σ H1) ∧ ∀ i m σ H, W i m σ H → (J.stop i H ∧ Dn.nx σ H) ∨ (J.go i H ∧ ∃ N : L2.St → Hp → Prop, (∀ σ' H', N σ' H' → ∃ m', m' < m ∧ W (i + 1) m' σ' H') ∧
      ∀ x H', J.yld i H x H' → g x σ H' fun σ2 H2 => tDS X.K B pin mr gb { Dn with nx := N, ct := N, bk := Dn.nx } σ2 H2) := by
  refine ⟨fun i m σ H => ∃ F ρ fp', StOk X.K B Pn Z1 F1 F H σ ρ fp' ∧ m = xs.length - i ∧ i ≤ xs.length ∧ forD t gb (xs.drop i) E ρ, ⟨xs.length, F1, ρ, fp, S, rfl, Nat.zero_le _, hx⟩, ?_⟩
  rintro i m σ H ⟨F, ρ, fp', S, rfl, hi, hr⟩
  obtain ⟨k1, k2⟩ := it i F H S.wf S.z S.f
  by_cases hlt : i < xs.length
  · refine .inr ⟨(k1 hlt).1, fun σ' H' => ∃ F ρ fp', StOk X.K B Pn Z1 F1 F H' σ' ρ fp' ∧ forD t gb (xs.drop (i + 1)) E ρ, fun σ' H' ⟨F, ρ, fp', S, h⟩ => ⟨xs.length - (i + 1), by omega, F, ρ, fp', S, rfl, hlt, h⟩, fun x H' y => ?_⟩
    obtain ⟨F2, d, ed, s2, r2⟩ := (k1 hlt).2 x H' y
    have S2 := S.step s2 fun a h => (by cases h)
    rw [List.drop_eq_getElem_cons hlt] at hr
    have ed' : xs[i] = d := Option.some.inj ((List.getElem?_eq_getElem hlt).symm.trans ed)
    rw [ed'] at hr
    obtain ⟨ρ', et, hb'⟩ := hr
    refine kg B Pn _ F1 F2 H' σ ρ ρ' fp' x d hpl S2 r2 et _ fun σ2 fp2 S3 => ?_
    exact ⟨Pn, _, F1, F2, ρ', fp2, _, hpl, S3, hb', ⟨fun F H σ ρ fp S h => ⟨F, ρ, fp, S, h⟩, L.rt, L.nx, fun F H σ ρ fp S h => ⟨F, ρ, fp, S, h⟩⟩⟩
  · have e : i = xs.length := by omega
    subst e
    rw [List.drop_length] at hr
    exact .inl ⟨k2 (Nat.le_refl _), L.nx F H σ ρ fp' S hr⟩
theorem Links.unbase {mr : Mode} {E : DEnds} {Dn : Ends} (S : StOk K B Pn Z0 F0 F H σ ρ fp) (L : Links K B Pn Z0 F0 mr E Dn) : Links K B Pn (prot B fp H) F mr E Dn :=
  ⟨fun F' H' σ' ρ' fp' T h => L.nx F' H' σ' ρ' fp' (S.unbase T) h, fun F' H' σ' ρ' fp' v d f T hv ap h => L.rt F' H' σ' ρ' fp' v d f (S.unbase T) hv (ap.unbase S.zp) h,
    fun F' H' σ' ρ' fp' T h => L.bk F' H' σ' ρ' fp' (S.unbase T) h, fun F' H' σ' ρ' fp' T h => L.ct F' H' σ' ρ' fp' (S.unbase T) h⟩
/-! a dict that may be read is locked -/
theorem isDct_er {u : HO} (h : isDct u) : erO u = u := by cases u <;> first | rfl | exact h.elim
theorem isDct_mut {u : HO} (h : isDct u) : Mut (some u) := by cases u <;> first | trivial | exact h.elim
theorem WF.lockd {a : Addr} {od : Obj} {u : HO} (w : WF B F H) (h : H a = some u) (hd : isDct u) (hB : a ∉ B) : WF B F (upd H a (.frz od u)) :=
  ⟨fun b x e => by
    obtain ⟨hb, y, ey, er⟩ := rdH_some (w.sub b x e)
    by_cases c : b = a
    · subst c
      rw [h] at ey; cases ey
      exact rdH_of hb upd_same (by rw [isDct_er hd] at er; exact er)
    · exact rdH_of hb (by rw [upd_ne c]; exact ey) er, fun b o x hb e => by
    by_cases c : b = a
    · subst c
      rw [upd_same] at e
      cases e; exact hd
    · rw [upd_ne c] at e; exact w.lock b o x hb e, w.bag.keep fun b hb x e => by rw [upd_ne (ne_mem hb hB)]; exact e⟩
theorem WF.unlockd {a : Addr} {od : Obj} {u : HO} (w : WF B F H) (h : H a = some (.frz od u)) (hd : isDct u) (hB : a ∉ B) : WF B F (upd H a u) :=
  ⟨fun b x e => by
    obtain ⟨hb, y, ey, er⟩ := rdH_some (w.sub b x e)
    by_cases c : b = a
    · subst c
      rw [h] at ey; cases ey
      exact rdH_of hb upd_same (by rw [isDct_er hd]; exact er)
    · exact rdH_of hb (by rw [upd_ne c]; exact ey) er, fun b o x hb e => by
    by_cases c : b = a
    · subst c
      rw [upd_same] at e
      cases e; exact hd.elim
    · rw [upd_ne c] at e; exact w.lock b o x hb e, w.bag.keep fun b hb x e => by rw [upd_ne (ne_mem hb hB)]; exact e⟩
theorem StOk.locked {a : Addr} {od : Obj} {u : HO} (S : StOk K B Pn Z0 F0 F H σ ρ fp) (h : H a = some u) (hd : isDct u) (hB : a ∉ B) (hf : a ∉ fp) : StOk K B Pn (prot B fp (upd H a (.frz od u))) F F (upd H a (.frz od u)) σ ρ fp :=
  ⟨S.wf.lockd h hd hB, S.own.mono (fun _ _ h => h) fun b hb o e => by rw [upd_ne (ne_mem hb hf)]; exact e, S.nd, fun b hb => ⟨(S.out b hb).1, (S.out b hb).2.1, prot_in (.inl hb)⟩, prot_same, fun b hb => prot_in (.inr hb), fun _ _ h => h, fun b o e => .inl e, S.pn⟩
theorem Val.unlockd {m : Mode} {a : Addr} {od : Obj} {u : HO} {v : V} {d : D} {f : List Addr} (h : H a = some (.frz od u)) (hd : isDct u) (hv : Val K m B F H v d f) : Val K m B F (upd H a u) v d f := by
  have own : ∀ {n f}, Own K F H n v d f → Own K F (upd H a u) n v d f := fun {n f} ho => Own.mono (fun _ _ h => h) (fun b hb o e => by
    obtain ⟨o', e', mu⟩ := ho.there b hb
    have : b ≠ a := fun z => by
      subst z
      rw [h] at e'; cases e'
      exact mu
    rw [upd_ne this]; exact e) ho
  cases m with
  | rd =>
    refine ⟨hv.1.mono fun b x e => ?_, hv.2⟩
    obtain ⟨hb, y, ey, er⟩ := rdH_some e
    by_cases c : b = a
    · subst c
      rw [h] at ey; cases ey
      exact rdH_of hb upd_same (by rw [isDct_er hd]; exact er)
    · exact rdH_of hb (by rw [upd_ne c]; exact ey) er
  | bor n =>
    obtain ⟨⟨f, ho, hB⟩, e⟩ := hv
    exact ⟨⟨f, own ho, hB⟩, e⟩
  | own n => exact own hv
theorem StOk.unlocked {a : Addr} {od : Obj} {u : HO} {F' H' : Hp} {σ' : L2.St} {ρ' : Env} {fp' : List Addr} (S : StOk K B Pn Z0 F0 F H σ ρ fp) (h : H a = some u) (hd : isDct u) (hB : a ∉ B) (hf : a ∉ fp)
    (T : StOk K B Pn (prot B fp (upd H a (.frz od u))) F F' H' σ' ρ' fp') : H' a = some (.frz od u) ∧ StOk K B Pn Z0 F0 F' (upd H' a u) σ' ρ' fp' := by
  have ha : H' a = some (.frz od u) := T.z a _ (by rw [prot_out hf hB]; exact upd_same)
  have keep : ∀ b o, b ∉ fp → b ∉ B → H b = some o → upd H' a u b = some o := fun b o h1 h2 e => by
    by_cases c : b = a
    · subst c; rw [h] at e; rw [upd_same]; exact e
    · rw [upd_ne c]
      exact T.z b o (by rw [prot_out h1 h2, upd_ne c]; exact e)
  have hf' : a ∉ fp' := fun z => by
    have := (T.out a z).2.2
    rw [prot_out hf hB, upd_same] at this; cases this
  refine ⟨ha, T.wf.unlockd ha hd hB, T.own.mono (fun _ _ h => h) fun b hb o e => by rw [upd_ne (ne_mem hb hf')]; exact e, T.nd, fun b hb => ⟨(T.out b hb).1, (T.out b hb).2.1, ?_⟩, fun b o e => ?_, S.zB, fun b o e => T.f b o (S.f b o e), fun b o e => ?_, T.pn⟩
  · cases q : Z0 b with
    | none => rfl
    | some o =>
      exfalso
      have h1 : b ∉ fp := fun h => by rw [(S.out b h).2.2] at q; cases q
      have h2 : b ∉ B := fun h => by rw [S.zB b h] at q; cases q
      have := (T.out b hb).2.2
      rw [prot_out h1 h2] at this
      by_cases c : b = a
      · subst c; exact hf' hb
      · rw [upd_ne c, S.z b o q] at this; cases this
  · have h1 : b ∉ fp := fun h => by rw [(S.out b h).2.2] at e; cases e
    have h2 : b ∉ B := fun h => by rw [S.zB b h] at e; cases e
    exact keep b o h1 h2 (S.z b o e)
  · rcases T.fr b o e with z | z | z
    · exact S.fr b o z
    · right; left
      cases q : Z0 b with
      | none => rfl
      | some o =>
        exfalso
        have h1 : b ∉ fp := fun h => by rw [(S.out b h).2.2] at q; cases q
        have h2 : b ∉ B := fun h => by rw [S.zB b h] at q; cases q
        rw [prot_out h1 h2] at z
        by_cases c : b = a
        · subst c; rw [upd_same] at z; cases z
        · rw [upd_ne c, S.z b o q] at z; cases z
    · exact .inr (.inr z)
theorem Links.lockd {X : Cx} {mr : Mode} {E : DEnds} {Dn : Ends} {a : Addr} {od : Obj} {u : HO} (S : StOk K B Pn Z0 F0 F H σ ρ fp) (h : H a = some u) (hd : isDct u) (hB : a ∉ B) (hf : a ∉ fp) (hn : ∀ o' u', X.H_0 a ≠ some (.frz o' u'))
    (L : Links K B Pn Z0 F0 mr E Dn) : Links K B Pn (prot B fp (upd H a (.frz od u))) F mr E (unlEnds X Dn) := by
  have key : ∀ {F' H' : Hp} {σ' : L2.St} {ρ' : Env} {fp' : List Addr}, StOk K B Pn (prot B fp (upd H a (.frz od u))) F F' H' σ' ρ' fp' → _ := fun T => S.unlocked (od := od) h hd hB hf T
  refine ⟨fun F' H' σ' ρ' fp' T hh => .inr ⟨a, od, u, (key T).1, hn, L.nx F' _ σ' ρ' fp' (key T).2 hh⟩, fun F' H' σ' ρ' fp' v d f T hv ap hh => .inr ⟨a, od, u, (key T).1, hn, L.rt F' _ σ' ρ' fp' v d f (key T).2 (hv.unlockd (key T).1 hd) ⟨fun b hb => ?_, ap.2⟩ hh⟩,
    fun F' H' σ' ρ' fp' T hh => .inr ⟨a, od, u, (key T).1, hn, L.bk F' _ σ' ρ' fp' (key T).2 hh⟩, fun F' H' σ' ρ' fp' T hh => .inr ⟨a, od, u, (key T).1, hn, L.ct F' _ σ' ρ' fp' (key T).2 hh⟩⟩
  obtain ⟨h1, h2, h3, h4⟩ := ap.1 b hb
  refine ⟨h1, h2, ?_, h4⟩
  cases q : Z0 b with
  | none => rfl
  | some o =>
    exfalso
    have g1 : b ∉ fp := fun h => by rw [(S.out b h).2.2] at q; cases q
    have g2 : b ∉ B := fun h => by rw [S.zB b h] at q; cases q
    rw [prot_out g1 g2] at h3
    by_cases c : b = a
    · subst c; rw [upd_same] at h3; cases h3
    · rw [upd_ne c, S.z b o q] at h3; cases h3
/-- the keys -/
def keyD : Key → D
  | .inl i => .int i
  | .inr s => .str s
def keysD : D → Option (List D)
  | .dK es => some (es.map fun e => keyD e.1)
  | .dT es => some (es.map fun e => .tup (e.1.map keyD))
  | _ => none
theorem keyD_R {G : Hp} : ∀ k : Key, R K G (kV k) (keyD k)
  | .inl i => .int i
  | .inr s => .str s
theorem keysD_RL {G : Hp} : ∀ ks : List Key, RL K G (ks.map kV) (ks.map keyD)
  | [] => .nil
  | k :: ks => .cons (keyD_R k) (keysD_RL ks)
theorem itD_keys {a : Addr} {o : Obj} {kvs : List (Key × V)} {es : List (Key × D)} {Z : Hp} (h : Z a = some (.frz o (.dK kvs))) (hk : kvs.map (·.1) = es.map (·.1)) : ItD K B Z F1 (Itk a o kvs) (es.map fun e => keyD e.1) := by
  intro i F H w sz sf
  have hl : es.length = kvs.length := by have := congrArg List.length hk; simpa using this.symm
  rw [List.length_map, hl]
  have hs := sz a _ h
  refine ⟨fun hi => ⟨⟨hs, hi⟩, fun x H' ⟨e, k, v, e1, e2⟩ => ?_⟩, fun hi => ⟨hs, hi⟩⟩
  subst e
  subst e2
  have e3 : (es.map (·.1))[i]? = some k := by rw [← hk, List.getElem?_map, e1]; rfl
  rw [List.getElem?_map] at e3
  cases q : es[i]? with
  | none => rw [q] at e3; cases e3
  | some p =>
    rw [q] at e3
    have e4 : p.1 = k := Option.some.inj e3
    exact ⟨F, keyD k, by rw [List.getElem?_map, q, ← e4]; rfl, Step.refl w, keyD_R k⟩
theorem itD_keysT {a : Addr} {o : Obj} {kvs : List (List Key × V)} {es : List (List Key × D)} {Z : Hp} (h : Z a = some (.frz o (.dT kvs))) (hk : kvs.map (·.1) = es.map (·.1)) : ItD K B Z F1 (Itkt a o kvs) (es.map fun e => .tup (e.1.map keyD)) := by
  intro i F H w sz sf
  have hl : es.length = kvs.length := by have := congrArg List.length hk; simpa using this.symm
  rw [List.length_map, hl]
  have hs := sz a _ h
  refine ⟨fun hi => ⟨⟨hs, hi⟩, fun x H' ⟨e, k, v, q, e1, e2, e3⟩ => ?_⟩, fun hi => ⟨hs, hi⟩⟩
  subst e
  subst e2
  have e4 : (es.map (·.1))[i]? = some k := by rw [← hk, List.getElem?_map, e1]; rfl
  rw [List.getElem?_map] at e4
  cases r : es[i]? with
  | none => rw [r] at e4; cases e4
  | some p =>
    rw [r] at e4
    have e5 : p.1 = k := Option.some.inj e4
    have hq : q ∉ B := fun z => by
      obtain ⟨o, e, nt⟩ := w.bag.there z
      rw [e3] at e; cases e
      exact nt trivial
    exact ⟨addT F (rdH B H'), .tup (k.map keyD), by rw [List.getElem?_map, r, ← e5]; rfl, (Step.refl w).addT, .tup (addT_tup w.sub (rdH_of hq e3 rfl)) (keysD_RL k)⟩
end
end GK

namespace GK
open PySem PySem.Spec PyProof.Rows L2

def ksOf (R : List D → Prop) (d : D) : Prop := ∃ ks, keysD d = some ks ∧ R ks
section
variable {X : Cx} {pin : Nat} {mr m : Mode} {gb : FS} {f : FE} {t : D → Env → Option Env} {pos p : Pos} {tg e e2 : Expr} {body : List Stmt}
/-- for k in d -/
theorem ds_forK (hp : PassesOwn (model X.prog X.w) X.A X.env X.xe) (hc : X.calm = true) (he : DE X B e (.own 0) f) (hg : DG X pin tg t) (hb : DSs X B body pin mr gb)
    (hs : ∀ x, foldedSetIterable e X.env x = pure x := by intro _; rfl) : DS X B (.For tg e body [] pos) pin mr (gFor (fun ρ R => f ρ (ksOf R)) t gb) := by
  obtain ⟨g, pg, kg⟩ := hg.ok
  refine PS.imp (ps_unl (ps_for hp hc (pi_keys (pe_lockA he)) pg hb hs)) fun Dn σ H ⟨Pn, Z0, F0, F, ρ, fp, E, hpl, S, hf, L⟩ => ⟨F, ρ, fp, _, S.base, hf, fun F1 H1 v d f1 s1 hv o1 n1 hR => ?_⟩
  have S1 := S.step s1 fun a h => (by cases h)
  obtain ⟨ks, ek, hR⟩ := hR
  have L0 : Links X.K B Pn (prot B fp H1) F1 mr E (unlEnds X Dn) :=
    ⟨fun F H σ ρ fp S h => .inl (L.nx F H σ ρ fp (S1.unbase S) h), fun F H σ ρ fp' v d f S hv ap h => .inl (L.rt F H σ ρ fp' v d f (S1.unbase S) hv (ap.unbase S1.zp) h),
      fun F H σ ρ fp S h => .inl (L.bk F H σ ρ fp (S1.unbase S) h), fun F H σ ρ fp S h => .inl (L.ct F H σ ρ fp (S1.unbase S) h)⟩
  cases d <;> try (cases ek; done)
  · obtain ⟨a, kvs, rfl, h1, hk, r⟩ := hv.1.dKI
    have ek' := Option.some.inj ek
    subst ek'
    have hfp : a ∉ fp := fun z => by rw [(S1.out a z).1] at h1; cases h1
    obtain ⟨hB, x, ex, er⟩ := rdH_some (S1.wf.sub a _ h1)
    have cs : x = .dK kvs ∨ ∃ od, x = .frz od (.dK kvs) := by
      cases x <;> first | (left; exact er) | skip
      rename_i od u
      right
      have er' : u = .dK kvs := er
      exact ⟨od, by rw [er']⟩
    rcases cs with rfl | ⟨od, rfl⟩
    · refine .inr ⟨a, _, ex, trivial, fun od hn => ⟨a, od, rfl, .inl ⟨kvs, upd_same, ?_⟩⟩⟩
      exact for_core hpl kg (S1.locked ex trivial hB hfp) (itD_keys (by rw [prot_out hfp hB]; exact upd_same) hk) hR (L.lockd S1 ex trivial hB hfp hn)
    · refine .inl ⟨a, od, rfl, .inl ⟨kvs, ex, ?_⟩⟩
      exact for_core hpl kg S1.rebase (itD_keys (by rw [prot_out hfp hB]; exact ex) hk) hR L0
  · obtain ⟨a, kvs, rfl, h1, hk, r⟩ := hv.1.dTI
    have ek' := Option.some.inj ek
    subst ek'
    have hfp : a ∉ fp := fun z => by rw [(S1.out a z).1] at h1; cases h1
    obtain ⟨hB, x, ex, er⟩ := rdH_some (S1.wf.sub a _ h1)
    have cs : x = .dT kvs ∨ ∃ od, x = .frz od (.dT kvs) := by
      cases x <;> first | (left; exact er) | skip
      rename_i od u
      right
      have er' : u = .dT kvs := er
      exact ⟨od, by rw [er']⟩
    rcases cs with rfl | ⟨od, rfl⟩
    · refine .inr ⟨a, _, ex, trivial, fun od hn => ⟨a, od, rfl, .inr ⟨kvs, upd_same, ?_⟩⟩⟩
      exact for_core hpl kg (S1.locked ex trivial hB hfp) (itD_keysT (by rw [prot_out hfp hB]; exact upd_same) hk) hR (L.lockd S1 ex trivial hB hfp hn)
    · refine .inl ⟨a, od, rfl, .inr ⟨kvs, ex, ?_⟩⟩
      exact for_core hpl kg S1.rebase (itD_keysT (by rw [prot_out hfp hB]; exact ex) hk) hR L0
end
/-! ### list comprehensions -/
/-- its turns -/
def compD (t : D → Env → Option Env) (fc : FT) (fe : FE) (ρ : Env) : List D → List D → (D → Prop) → Prop
  | [], acc, R => R (.lst acc)
  | x :: xs, acc, R => ∃ ρ', t x ρ = some ρ' ∧ fc ρ' fun b => if b = true then fe ρ' fun y => acc.length < sizeLine ∧ compD t fc fe ρ xs (acc ++ [y]) R else compD t fc fe ρ xs acc R
/-- the own names are wiped -/
def wipeE (ρ : Env) : List Nat → Env
  | [] => ρ
  | v :: vs => (wipeE ρ vs).set v none
section
variable {K : PySem.W.Frag} {B fp : List Addr} {Pn : List V} {Z0 F0 F H : Hp} {σ : L2.St} {ρ : Env}
theorem OwnE.unset : ∀ {σ : L2.St} {ρ : Env} {fp : List Addr} (i : Nat), OwnE K F H σ ρ fp → fp.Nodup → ∃ fp', OwnE K F H (σ.set i none) (ρ.set i none) fp' ∧ fp'.Nodup ∧ ∀ a ∈ fp', a ∈ fp
  | [], [], fp, i, h, nd => ⟨fp, h, nd, fun _ h => h⟩
  | x :: σ, none :: ρ, fp, 0, h, nd => ⟨fp, h, nd, fun _ h => h⟩
  | x :: σ, none :: ρ, fp, i + 1, h, nd => OwnE.unset (σ := σ) (ρ := ρ) i h nd
  | some w :: σ, some (k, e) :: ρ, fp, 0, ⟨f1, f2, ef, h1, t⟩, nd => by
    subst ef
    exact ⟨f2, t, (List.nodup_append.mp nd).2.1, fun a ha => List.mem_append_right _ ha⟩
  | some w :: σ, some (k, e) :: ρ, fp, i + 1, ⟨f1, f2, ef, h1, t⟩, nd => by
    subst ef
    obtain ⟨n1, n2, n3⟩ := List.nodup_append.mp nd
    obtain ⟨fp', o, nd', sub⟩ := OwnE.unset (σ := σ) (ρ := ρ) i t n2
    refine ⟨f1 ++ fp', ⟨f1, fp', rfl, h1, o⟩, List.nodup_append.mpr ⟨n1, nd', fun a ha b hb e => n3 a ha b (sub b hb) e⟩, fun a ha => ?_⟩
    rcases List.mem_append.mp ha with z | z
    · exact List.mem_append_left _ z
    · exact List.mem_append_right _ (sub a z)
  | _ :: _, [], _, _, h, _ => by cases h
  | [], _ :: _, _, _, h, _ => by cases h
  | none :: _, some _ :: _, _, _, h, _ => by cases h
theorem StOk.wipe (S : StOk K B [] Z0 F0 F H σ ρ fp) : ∀ vs : List Nat, ∃ fp', StOk K B [] Z0 F0 F H (L2.wipe σ vs) (wipeE ρ vs) fp' ∧ ∀ a ∈ fp', a ∈ fp
  | [] => ⟨fp, S, fun _ h => h⟩
  | v :: vs => by
    obtain ⟨fp', S', sub⟩ := S.wipe vs
    obtain ⟨fp2, o, nd, sub2⟩ := S'.own.unset v S'.nd
    exact ⟨fp2, ⟨S'.wf, o, nd, fun a ha => S'.out a (sub2 a ha), S'.z, S'.zB, S'.f, S'.fr, fun i v e => (by simp at e)⟩, fun a ha => sub a (sub2 a ha)⟩
end
section
variable {K : PySem.W.Frag} {B fp : List Addr} {Pn : List V} {Z0 F0 F F1 F' H H1 H' : Hp} {σ : L2.St} {ρ : Env} {n : Nat}
theorem Step.mutNew {A : List Addr} {a : Addr} {o : HO} (s : Step B A F H F' H') (h : H a = none) (hF : F' a = none) (hB : a ∉ B) (ho : erO o = o) : Step B A F H F' (upd H' a o) :=
  ⟨fun b u hb e => by rw [upd_ne (ne_of_none e h)]; exact s.same b u hb e, s.fs, s.fresh, s.wf.mut hF hB ho⟩
/-- the target in a comprehension's block -/
structure DGc (X : Cx) (tg : Expr) (vs : List Nat) (t : D → Env → Option Env) : Prop where
  ok : ∃ g : TG, (∀ (s : Shared) (H : Hp) (scope : Scope) (C : Addr) (cl : List (Str × Addr)) (fp : List Addr), (∀ v ∈ vs, ∃ x, X.N[v]? = some x ∧ ∀ C cl, (compEnvC scope cl C X.env).scope.names.lookup x = some .local) → PG (X.blk s H scope (compEnvC scope cl C X.env) fp) tg g) ∧
    ∀ (B : List Addr) (F H : Hp) (σ : L2.St) (ρ ρ' : Env) (fp : List Addr) (v : V) (d : D), StOk X.K B [] noH noH F H (L2.wipe σ vs) ρ fp → R X.K F v d → t d ρ = some ρ' →
      ∀ Q : L2.St → Hp → Prop, (∀ σ' fp', StOk X.K B [] noH noH F H σ' ρ' fp' → L2.wipe σ' vs = L2.wipe σ vs → Q σ' H) → g v (L2.wipe σ vs) H Q
structure CompW (K : PySem.W.Frag) (B : List Addr) (n : Nat) (F1 H1 : Hp) (Da : Addr) (F H : Hp) (va : List V) (da : List D) (ga : List Addr) : Prop where
  s : Step B [] F1 H1 F H
  at_ : H Da = some (.lst va)
  own : OwnL (Own K F H n) va da ga
  out : ∀ a ∈ ga, F a = none ∧ a ∉ B ∧ H1 a = none
  nd : (Da :: ga).Nodup
  FD : F Da = none
theorem CompW.step {Da : Addr} {va : List V} {da : List D} {ga : List Addr} (hD : H1 Da = none) (hB : Da ∉ B) (w : CompW K B n F1 H1 Da F H va da ga) (s : Step B [] F H F' H') : CompW K B n F1 H1 Da F' H' va da ga :=
  ⟨w.s.trans s fun a h => (by cases h), s.same Da _ hB w.at_, w.own.imp fun v d f hf h => Own.mono s.fs (fun a ha o e => s.same a o (w.out a (hf a ha)).2.1 e) h, fun a ha => by
    obtain ⟨o, e, mu⟩ := w.own.there (fun v d f q => Own.there q) a ha
    exact ⟨s.out e mu (w.out a ha).2.1 (w.out a ha).1 (fun z => (by cases z)), (w.out a ha).2⟩, w.nd, s.out w.at_ trivial hB w.FD (fun z => (by cases z))⟩
theorem comp_core {X : Cx} {t : D → Env → Option Env} {fc : FT} {fe : FE} {g : TG} {J : It} {xs : List D} {R : D → Prop} {Q : VK} {Z : Hp} {Da : Addr} {vs : List Nat} {ρw : Env}
    (kg : ∀ (B : List Addr) (F H : Hp) (σ : L2.St) (ρ ρ' : Env) (fp : List Addr) (v : V) (d : D), StOk X.K B [] noH noH F H (L2.wipe σ vs) ρ fp → GK.R X.K F v d → t d ρ = some ρ' →
      ∀ Q : L2.St → Hp → Prop, (∀ σ' fp', StOk X.K B [] noH noH F H σ' ρ' fp' → L2.wipe σ' vs = L2.wipe σ vs → Q σ' H) → g v (L2.wipe σ vs) H Q)
    (S : StOk X.K B [] noH noH F1 H1 (L2.wipe σ vs) ρw fp) (it : ItD X.K B Z F1 J xs) (hZ : ∀ a o, Z a = some o → a ∉ B ∧ H1 a = some o) (hD : H1 Da = none) (hx : compD t fc fe ρw xs [] R)
    (fin : ∀ F H va da ga, CompW X.K B n F1 H1 Da F H va da ga → R (.lst da) → Q (.ref Da) H) :
    ∃ W : Nat → Nat → Hp → Prop, (∃ m, W 0 m (upd H1 Da (.lst []))) ∧ ∀ i m H, W i m H → (J.stop i H ∧ Q (.ref Da) H) ∨ (J.go i H ∧ ∃ Nx : Hp → Prop, (∀ H', Nx H' → ∃ m', m' < m ∧ W (i + 1) m' H') ∧ ∀ x H', J.yld i H x H' →
      g x (L2.wipe σ vs) H' fun σ2 H2 => L2.wipe σ2 vs = L2.wipe σ vs ∧ tDT X.K B fc σ2 H2 fun b H3 => if b = true then tD X.K B (.own n) fe σ2 H3 fun y H4 => ∃ acc, H4 Da = some (.lst acc) ∧ acc.length < sizeLine ∧ Nx (upd H4 Da (.lst (acc ++ [y]))) else Nx H3) := by
  have hB : Da ∉ B := S.wf.notB hD
  have hF : F1 Da = none := F_none S.wf hD
  refine ⟨fun i m H => ∃ F va da ga, CompW X.K B n F1 H1 Da F H va da ga ∧ m = xs.length - i ∧ i ≤ xs.length ∧ compD t fc fe ρw (xs.drop i) da R,
    ⟨xs.length, F1, [], [], [], ⟨(Step.refl S.wf).mutNew hD hF hB rfl, upd_same, rfl, fun a h => (by cases h), by simp, hF⟩, rfl, Nat.zero_le _, hx⟩, ?_⟩
  rintro i m H ⟨F, va, da, ga, w, rfl, hi, hr⟩
  obtain ⟨k1, k2⟩ := it i F H w.s.wf (fun a o e => w.s.same a o (hZ a o e).1 (hZ a o e).2) w.s.fs
  by_cases hlt : i < xs.length
  · refine .inr ⟨(k1 hlt).1, fun H' => ∃ F va da ga, CompW X.K B n F1 H1 Da F H' va da ga ∧ compD t fc fe ρw (xs.drop (i + 1)) da R, fun H' ⟨F, va, da, ga, w, h⟩ => ⟨xs.length - (i + 1), by omega, F, va, da, ga, w, rfl, hlt, h⟩, fun x H' y => ?_⟩
    obtain ⟨F2, d, ed, s2, r2⟩ := (k1 hlt).2 x H' y
    have w2 := w.step hD hB s2
    rw [List.drop_eq_getElem_cons hlt] at hr
    have ed' : xs[i] = d := Option.some.inj ((List.getElem?_eq_getElem hlt).symm.trans ed)
    rw [ed'] at hr
    obtain ⟨ρ', et, hb'⟩ := hr
    refine kg B F2 H' σ ρw ρ' fp x d (S.step w2.s fun a h => (by cases h)) r2 et _ fun σ2 fp2 S3 hw => ⟨hw, ?_⟩
    refine ⟨F2, ρ', fp2, _, S3, hb', fun F3 H3 b s3 hb => ?_⟩
    have w3 := w2.step hD hB s3
    cases b with
    | false =>
      dsimp only at hb ⊢
      rw [if_neg Bool.false_ne_true] at hb ⊢
      exact ⟨F3, va, da, ga, w3, hb⟩
    | true =>
      dsimp only at hb ⊢
      rw [if_pos rfl] at hb ⊢
      refine ⟨F3, ρ', fp2, _, S3.step s3 (fun a h => by cases h), hb, fun F4 H4 yv yd fy s4 hy oy ny ⟨hz, hk⟩ => ?_⟩
      have w4 := w3.step hD hB s4
      have hl : va.length = da.length := w.own.len
      have fresh : ∀ a ∈ fy, H3 a = none := fun a ha => (oy a ha).1.elim (fun z => by cases z) id
      have hDy : Da ∉ fy := fun z => by
        have := fresh Da z
        rw [w3.at_] at this; cases this
      have hDg : Da ∉ ga := (List.nodup_cons.mp w.nd).1
      refine ⟨va, w4.at_, by rw [hl]; exact hz, F4, va ++ [yv], da ++ [yd], ga ++ fy, ⟨w4.s.mutNew hD w4.FD hB rfl, upd_same, (w4.own.upd hDg).append (OwnL.one (Own.upd (show Own X.K F4 H4 n yv yd fy from hy) hDy)), fun a ha => ?_, ?_, w4.FD⟩, hk⟩
      · rcases List.mem_append.mp ha with z | z
        · exact w4.out a z
        · exact ⟨(oy a z).2.1, (oy a z).2.2, w3.s.new (oy a z).2.2 (fresh a z)⟩
      · refine List.nodup_cons.mpr ⟨fun z => (List.mem_append.mp z).elim hDg hDy, List.nodup_append.mpr ⟨(List.nodup_cons.mp w.nd).2, ny, fun a ha b hb e => ?_⟩⟩
        subst e
        obtain ⟨o, e, _⟩ := w3.own.there (fun v d f q => Own.there q) a ha
        rw [fresh a hb] at e; cases e
  · have e : i = xs.length := by omega
    subst e
    rw [List.drop_length] at hr
    exact .inl ⟨k2 (Nat.le_refl _), fin F H va da ga w hr⟩
theorem CompW.post {A : List Addr} {R : D → Prop} {Q : VK} {Da : Addr} {va : List V} {da : List D} {ga : List Addr} (hD : H1 Da = none) (hB : Da ∉ B) (w : CompW K B n F1 H1 Da F H va da ga) (hR : R (.lst da)) (k : Post K B A F1 H1 (.own (n + 1)) R Q) : Q (.ref Da) H :=
  k F H _ (.lst da) (Da :: ga) (w.s.weak fun a h => (by cases h)) ⟨Da, va, ga, rfl, w.at_, rfl, w.own⟩ (fun a ha => by
    rcases List.mem_cons.mp ha with z | z
    · rw [z]; exact ⟨.inr hD, w.FD, hB⟩
    · exact ⟨.inr (w.out a z).2.2, (w.out a z).1, (w.out a z).2.1⟩) w.nd hR
end
section
variable {X : Cx} {elt tg iter : Expr} {ifs : List Expr} {scope : Scope} {own : List (Str × Nat)} {pos : Pos} {fi : FI} {f fe : FE} {fc : FT} {t : D → Env → Option Env} {n : Nat}
def gComp (fi : FI) (t : D → Env → Option Env) (fc : FT) (fe : FE) (vs : List Nat) : FE := fun ρ R => fi ρ fun xs => compD t fc fe (wipeE ρ vs) xs [] R
abbrev DTs (X : Cx) (B : List Addr) (ifs : List Expr) (f : FT) : Prop := PTs X ifs (tDT X.K B f)
theorem dts_nil : DTs X B [] (fun _ R => R true) := ⟨fun pins s σ H Q I ⟨F, ρ, fp, R, S, hf, k⟩ => pts_nil.run pins s σ H Q I (k F H true (Step.refl S.wf) hf)⟩
theorem dts_one {c : Expr} (h : DT X B c fc) : DTs X B [c] fc := pts_one h
theorem tD_lc {wi : TI} {g : TG} {σ : L2.St} {H : Hp} {Q : VK} {vs : List Nat} (hwi : ∀ σ H R, tDI X.K B fi σ H R → wi σ H R)
    (kg : ∀ (B : List Addr) (F H : Hp) (σ : L2.St) (ρ ρ' : Env) (fp : List Addr) (v : V) (d : D), StOk X.K B [] noH noH F H (L2.wipe σ vs) ρ fp → R X.K F v d → t d ρ = some ρ' →
      ∀ Q : L2.St → Hp → Prop, (∀ σ' fp', StOk X.K B [] noH noH F H σ' ρ' fp' → L2.wipe σ' vs = L2.wipe σ vs → Q σ' H) → g v (L2.wipe σ vs) H Q)
    (h : tD X.K B (.own (n + 1)) (gComp fi t fc fe vs) σ H Q) : tLc wi g (tDT X.K B fc) (tD X.K B (.own n) fe) vs σ H Q := by
  obtain ⟨F, ρ, fp, R, S, hf, k⟩ := h
  refine hwi σ H _ ⟨F, ρ, fp, _, S, hf, fun J F1 H1 xs s1 it hx Da hD => ?_⟩
  have S1 := S.step s1 fun a h => (by cases h)
  obtain ⟨fpw, Sw, _⟩ := S1.wipe vs
  refine comp_core (n := n) kg Sw it (fun a o e => ?_) hD hx fun F H va da ga w hR => w.post hD (S1.wf.notB hD) hR (k.after s1 (A1 := []) fun a h => (by cases h))
  by_cases c : a ∈ fp ∨ a ∈ B
  · rw [prot_in c] at e; cases e
  · unfold prot at e
    rw [if_neg c] at e
    exact ⟨fun z => c (.inr z), e⟩
theorem de_lc (n : Nat) (hc : X.calm = true) (hN : X.N.Nodup) (hi : DI X B tg iter fi) (ok : BlkOk X.N X.env.scope scope own) (hg : DGc X tg (own.map (·.2)) t) (hol : ∀ v ∈ own.map (·.2), ∃ x, X.N[v]? = some x ∧ ∀ C cl, (compEnvC scope cl C X.env).scope.names.lookup x = some .local)
    (ht : ∀ (s : Shared) (H : Hp) (C : Addr) (cl : List (Str × Addr)) (fp : List Addr), DTs (X.blk s H scope (compEnvC scope cl C X.env) fp) B ifs fc)
    (he : ∀ (s : Shared) (H : Hp) (C : Addr) (cl : List (Str × Addr)) (fp : List Addr), DE (X.blk s H scope (compEnvC scope cl C X.env) fp) B elt (.own n) fe) (hs : ∀ x, foldedSetIterable iter X.env x = pure x := by intro _; rfl) :
    DE X B (.ListComp elt [⟨tg, iter, ifs, 0⟩] scope pos) (.own (n + 1)) (gComp fi t fc fe (own.map (·.2))) := by
  obtain ⟨g, pg, kg⟩ := hg.ok
  exact PE.imp (pe_lc hc hN hi ok (fun s H C cl fp => pg s H scope C cl fp hol) ht he hs) fun σ H Q q => tD_lc (fun _ _ _ h => h) kg q
/-- y = [..] on one line, y a local -/
theorem ds_setLc (i n : Nat) {pin : Nat} {mr : Mode} {y : Str} {py spos : Pos} (hc : X.calm = true) (hN : X.N.Nodup) (hy : X.N[i]? = some y) (hyl : X.env.scope.names.lookup y = some .local) (hp : pin ≤ i)
    (hsw : swapsWith (.ListComp elt [⟨tg, iter, ifs, 0⟩] scope pos) (some (.Name y py)) spos.line X.env = pure true) (hi : DI X B tg iter fi) (ok : BlkOk X.N X.env.scope scope own) (hg : DGc X tg (own.map (·.2)) t) (hol : ∀ v ∈ own.map (·.2), ∃ x, X.N[v]? = some x ∧ ∀ C cl, (compEnvC scope cl C X.env).scope.names.lookup x = some .local)
    (ht : ∀ (s : Shared) (H : Hp) (C : Addr) (cl : List (Str × Addr)) (fp : List Addr), DTs (X.blk s H scope (compEnvC scope cl C X.env) fp) B ifs fc)
    (he : ∀ (s : Shared) (H : Hp) (C : Addr) (cl : List (Str × Addr)) (fp : List Addr), DE (X.blk s H scope (compEnvC scope cl C X.env) fp) B elt (.own n) fe) (hs : ∀ x, foldedSetIterable iter X.env x = pure x := by intro _; rfl) :
    DS X B (.Assign [.Name y py] (.ListComp elt [⟨tg, iter, ifs, 0⟩] scope pos) spos) pin mr (fun E ρ => gComp fi t fc fe (own.map (·.2)) ρ fun d => i < ρ.length ∧ E.nx (ρ.set i (some (n + 1, d)))) := by
  obtain ⟨g, pg, kg⟩ := hg.ok
  refine PS.imp (ps_setLc (tt := tDT X.K B fc) (te := tD X.K B (.own n) fe) hc hN hy hyl hsw hi ok (fun s H C cl fp => pg s H scope C cl fp hol) ht he hs) fun Dn σ H ⟨Pn, Z0, F0, F, ρ, fp, E, hpl, S, hf, L⟩ => ?_
  refine tD_lc (Q := fun x H1 => Dn.nx (σ.set i (some x)) H1) (fun _ _ _ h => h) kg (tDM_of (pin := pin) (K := X.K) ⟨Pn, Z0, F0, F, ρ, fp, fun d ρ' => i < ρ'.length ∧ E.nx (ρ'.set i (some (n + 1, d))), hpl, S, hf, fun F' H' ρ' fp' v d f' S' hv ap hR => ?_⟩)
  obtain ⟨fp2, S2⟩ := S'.set hv ap hR.1 (by omega)
  exact L.nx F' H' _ _ fp2 S2 hR.2
theorem dgc_name {x : Str} {p : Pos} (i : Nat) (hN : X.N.Nodup) (hi : X.N[i]? = some x) : DGc X (.Name x p) [i] (tgN i) :=
  ⟨gName i, fun s H scope C cl fp hl => by
    obtain ⟨y, e, hy⟩ := hl i (by simp)
    rw [hi] at e; cases e
    exact pg_name hN hi (.inl (hy C cl)) (.inr (hy C cl)), fun B F H σ ρ ρ' fp v d S r e Q k => by
    unfold tgN at e
    split at e
    · rename_i hi'
      cases e
      obtain ⟨fp', S'⟩ := S.set (n := 0) (f := []) (i := i) ⟨r, rfl⟩ .nil hi' (Nat.zero_le _)
      refine k _ fp' S' ?_
      show ((σ.set i none).set i (some v)).set i none = σ.set i none
      rw [List.set_set, List.set_set]
    · cases e⟩
end
end GK

namespace GK
open PySem PySem.Spec PyProof.Rows L2

/-! ### comprehensions over a dict: it is locked meanwhile -/
/-- H' is H, or H with a dict locked -/
def Lk (X : Cx) (B : List Addr) (H H' : Hp) : Prop := H' = H ∨ ∃ a od u, H a = some u ∧ isDct u ∧ a ∉ B ∧ H' = upd H a (.frz od u) ∧ ∀ o' u', X.H_0 a ≠ some (.frz o' u')
section
variable {K : PySem.W.Frag} {B A fp : List Addr} {F F1 F' H H1 H' : Hp} {σ : L2.St} {ρ : Env} {n : Nat}
theorem Step.unlockd {a : Addr} {od : Obj} {u : HO} (h : H1 a = some u) (hd : isDct u) (hB : a ∉ B) (s : Step B A F1 (upd H1 a (.frz od u)) F H) : Step B A F1 H1 F (upd H a u) := by
  have ha : H a = some (.frz od u) := s.same a _ hB upd_same
  refine ⟨fun b o hb e => ?_, s.fs, fun b w e => ?_, s.wf.unlockd ha hd hB⟩
  · by_cases c : b = a
    · subst c; rw [h] at e; cases e; exact upd_same
    · rw [upd_ne c]; exact s.same b o hb (by rw [upd_ne c]; exact e)
  · rcases s.fresh b w e with z | z | z | z
    · exact .inl z
    · right; left
      by_cases c : b = a
      · subst c; rw [upd_same] at z; cases z
      · rw [upd_ne c] at z; exact z
    · exact .inr (.inr (.inl z))
    · exact .inr (.inr (.inr z))
theorem CompW.unlockd {Da a : Addr} {od : Obj} {u : HO} {va : List V} {da : List D} {ga : List Addr} (h : H1 a = some u) (hd : isDct u) (hB : a ∉ B) (hD : H1 Da = none) (w : CompW K B n F1 (upd H1 a (.frz od u)) Da F H va da ga) : CompW K B n F1 H1 Da F (upd H a u) va da ga := by
  have hne : Da ≠ a := fun z => by rw [z, h] at hD; cases hD
  have hga : a ∉ ga := fun z => by
    have := (w.out a z).2.2
    rw [upd_same] at this; cases this
  refine ⟨w.s.unlockd h hd hB, by rw [upd_ne hne]; exact w.at_, w.own.upd hga, fun b hb => ?_, w.nd, w.FD⟩
  obtain ⟨q1, q2, q3⟩ := w.out b hb
  have c : b ≠ a := fun z => by subst z; exact hga hb
  exact ⟨q1, q2, by rw [upd_ne c] at q3; exact q3⟩
theorem unl_fin {X : Cx} {v : V} {Q : VK} (l : Lk X B H1 H') (s : Step B [] F1 H' F H) (k1 : H' = H1 → Q v H) (k2 : ∀ a od u, H1 a = some u → isDct u → a ∉ B → H' = upd H1 a (.frz od u) → Q v (upd H a u)) : unlQ X Q v H := by
  rcases l with e | ⟨a, od, u, h1, h2, h3, e, h4⟩
  · exact .inl (k1 e)
  · subst e
    exact .inr ⟨a, od, u, s.same a _ h3 upd_same, h4, k2 a od u h1 h2 h3 rfl⟩
/-- an iterator over the keys of a dict that may be read; the dict is locked -/
theorem keys_ti {X : Cx} {f : FE} {Rx : List D → Prop} {Rt : It → Hp → Prop} (S : StOk X.K B [] noH noH F H σ ρ fp) (hf : f ρ (ksOf Rx))
    (k : ∀ J F1 H1 H1' xs, Step B [] F H F1 H1 → Rx xs → StOk X.K B [] noH noH F1 H1' σ ρ fp → Lk X B H1 H1' → (∀ a, H1' a = none ↔ H1 a = none) → ItD X.K B (prot B fp H1') F1 J xs → Rt J H1') :
    iKeys (fun σ H Q => tD X.K B (.own 0) f σ H fun x H1 => Q x H1 ∨ ∃ d u, H1 d = some u ∧ Mut (some u) ∧ ∀ od, (∀ o' u', X.H_0 d ≠ some (.frz o' u')) → Q x (upd H1 d (.frz od u))) σ H Rt := by
  refine ⟨F, ρ, fp, _, S, hf, fun F1 H1 v d f1 s1 hv o1 n1 hR => ?_⟩
  have S1 := S.step s1 fun a h => (by cases h)
  obtain ⟨ks, ek, hR⟩ := hR
  have hno : ∀ {a : Addr} {od : Obj} {u : HO}, H1 a = some u → ∀ b, upd H1 a (.frz od u) b = none ↔ H1 b = none := fun {a od u} h b => by
    by_cases c : b = a
    · subst c; rw [upd_same, h]; exact ⟨fun z => (by cases z), fun z => (by cases z)⟩
    · rw [upd_ne c]
  have lockS : ∀ {a : Addr} {od : Obj} {u : HO}, H1 a = some u → isDct u → a ∉ B → a ∉ fp → StOk X.K B [] noH noH F1 (upd H1 a (.frz od u)) σ ρ fp := fun h hd hB hfp => (S1.locked h hd hB hfp).base
  cases d <;> try (cases ek; done)
  · obtain ⟨a, kvs, rfl, h1, hk, r⟩ := hv.1.dKI
    have ek' := Option.some.inj ek
    subst ek'
    have hfp : a ∉ fp := fun z => by rw [(S1.out a z).1] at h1; cases h1
    obtain ⟨hB, x, ex, er⟩ := rdH_some (S1.wf.sub a _ h1)
    have cs : x = .dK kvs ∨ ∃ od, x = .frz od (.dK kvs) := by
      cases x <;> first | (left; exact er) | skip
      rename_i od u
      right
      have er' : u = .dK kvs := er
      exact ⟨od, by rw [er']⟩
    rcases cs with rfl | ⟨od, rfl⟩
    · exact .inr ⟨a, _, ex, trivial, fun od hn => ⟨a, od, rfl, .inl ⟨kvs, upd_same, k _ F1 H1 _ _ s1 hR (lockS ex trivial hB hfp) (.inr ⟨a, od, _, ex, trivial, hB, rfl, hn⟩) (hno ex) (itD_keys (by rw [prot_out hfp hB]; exact upd_same) hk)⟩⟩⟩
    · exact .inl ⟨a, od, rfl, .inl ⟨kvs, ex, k _ F1 H1 _ _ s1 hR S1 (.inl rfl) (fun _ => .rfl) (itD_keys (by rw [prot_out hfp hB]; exact ex) hk)⟩⟩
  · obtain ⟨a, kvs, rfl, h1, hk, r⟩ := hv.1.dTI
    have ek' := Option.some.inj ek
    subst ek'
    have hfp : a ∉ fp := fun z => by rw [(S1.out a z).1] at h1; cases h1
    obtain ⟨hB, x, ex, er⟩ := rdH_some (S1.wf.sub a _ h1)
    have cs : x = .dT kvs ∨ ∃ od, x = .frz od (.dT kvs) := by
      cases x <;> first | (left; exact er) | skip
      rename_i od u
      right
      have er' : u = .dT kvs := er
      exact ⟨od, by rw [er']⟩
    rcases cs with rfl | ⟨od, rfl⟩
    · exact .inr ⟨a, _, ex, trivial, fun od hn => ⟨a, od, rfl, .inr ⟨kvs, upd_same, k _ F1 H1 _ _ s1 hR (lockS ex trivial hB hfp) (.inr ⟨a, od, _, ex, trivial, hB, rfl, hn⟩) (hno ex) (itD_keysT (by rw [prot_out hfp hB]; exact upd_same) hk)⟩⟩⟩
    · exact .inl ⟨a, od, rfl, .inr ⟨kvs, ex, k _ F1 H1 _ _ s1 hR S1 (.inl rfl) (fun _ => .rfl) (itD_keysT (by rw [prot_out hfp hB]; exact ex) hk)⟩⟩
theorem prot_sub {a : Addr} {o : HO} (e : prot B fp H a = some o) : a ∉ B ∧ H a = some o := by
  by_cases c : a ∈ fp ∨ a ∈ B
  · rw [prot_in c] at e; cases e
  · unfold prot at e
    rw [if_neg c] at e
    exact ⟨fun z => c (.inr z), e⟩
end
section
variable {X : Cx} {elt tg iter : Expr} {ifs : List Expr} {scope : Scope} {own : List (Str × Nat)} {pos : Pos} {f fe : FE} {fc : FT} {t : D → Env → Option Env} {n : Nat}
theorem tD_lcK {g : TG} {σ : L2.St} {H : Hp} {Q : VK} {vs : List Nat}
    (kg : ∀ (B : List Addr) (F H : Hp) (σ : L2.St) (ρ ρ' : Env) (fp : List Addr) (v : V) (d : D), StOk X.K B [] noH noH F H (L2.wipe σ vs) ρ fp → R X.K F v d → t d ρ = some ρ' →
      ∀ Q : L2.St → Hp → Prop, (∀ σ' fp', StOk X.K B [] noH noH F H σ' ρ' fp' → L2.wipe σ' vs = L2.wipe σ vs → Q σ' H) → g v (L2.wipe σ vs) H Q)
    (h : tD X.K B (.own (n + 1)) (gComp (fun ρ R => f ρ (ksOf R)) t fc fe vs) σ H Q) :
    tLc (iKeys (fun σ H Q => tD X.K B (.own 0) f σ H fun x H1 => Q x H1 ∨ ∃ d u, H1 d = some u ∧ Mut (some u) ∧ ∀ od, (∀ o' u', X.H_0 d ≠ some (.frz o' u')) → Q x (upd H1 d (.frz od u)))) g (tDT X.K B fc) (tD X.K B (.own n) fe) vs σ H (unlQ X Q) := by
  obtain ⟨F, ρ, fp, R, S, hf, k⟩ := h
  refine keys_ti (Rx := fun xs => compD t fc fe (wipeE ρ vs) xs [] R) S hf fun J F1 H1 H1' xs s1 hx S1 lk hno it Da hD => ?_
  obtain ⟨fpw, Sw, _⟩ := S1.wipe vs
  refine comp_core (n := n) kg Sw it (fun a o e => prot_sub e) hD hx fun F H va da ga w hR => ?_
  have hD1 : H1 Da = none := (hno Da).mp hD
  have hB : Da ∉ B := S1.wf.notB hD
  refine unl_fin lk w.s (fun e => ?_) fun a od u h1 h2 h3 e => ?_
  · subst e
    exact w.post hD1 hB hR (k.after s1 (A1 := []) fun a h => (by cases h))
  · subst e
    exact (w.unlockd h1 h2 h3 hD1).post hD1 hB hR (k.after s1 (A1 := []) fun a h => (by cases h))
theorem de_lcK (n : Nat) (hc : X.calm = true) (hN : X.N.Nodup) (hi : DE X B iter (.own 0) f) (ok : BlkOk X.N X.env.scope scope own) (hg : DGc X tg (own.map (·.2)) t) (hol : ∀ v ∈ own.map (·.2), ∃ x, X.N[v]? = some x ∧ ∀ C cl, (compEnvC scope cl C X.env).scope.names.lookup x = some .local)
    (ht : ∀ (s : Shared) (H : Hp) (C : Addr) (cl : List (Str × Addr)) (fp : List Addr), DTs (X.blk s H scope (compEnvC scope cl C X.env) fp) B ifs fc)
    (he : ∀ (s : Shared) (H : Hp) (C : Addr) (cl : List (Str × Addr)) (fp : List Addr), DE (X.blk s H scope (compEnvC scope cl C X.env) fp) B elt (.own n) fe) (hs : ∀ x, foldedSetIterable iter X.env x = pure x := by intro _; rfl) :
    DE X B (.ListComp elt [⟨tg, iter, ifs, 0⟩] scope pos) (.own (n + 1)) (gComp (fun ρ R => f ρ (ksOf R)) t fc fe (own.map (·.2))) := by
  obtain ⟨g, pg, kg⟩ := hg.ok
  exact PE.imp (pe_unl (pe_lc hc hN (pi_keys (pe_lockA hi)) ok (fun s H C cl fp => pg s H scope C cl fp hol) ht he hs)) fun σ H Q q => tD_lcK kg q
theorem ds_setLcK (i n : Nat) {pin : Nat} {mr : Mode} {y : Str} {py spos : Pos} (hc : X.calm = true) (hN : X.N.Nodup) (hy : X.N[i]? = some y) (hyl : X.env.scope.names.lookup y = some .local) (hp : pin ≤ i)
    (hsw : swapsWith (.ListComp elt [⟨tg, iter, ifs, 0⟩] scope pos) (some (.Name y py)) spos.line X.env = pure true) (hi : DE X B iter (.own 0) f) (ok : BlkOk X.N X.env.scope scope own) (hg : DGc X tg (own.map (·.2)) t) (hol : ∀ v ∈ own.map (·.2), ∃ x, X.N[v]? = some x ∧ ∀ C cl, (compEnvC scope cl C X.env).scope.names.lookup x = some .local)
    (ht : ∀ (s : Shared) (H : Hp) (C : Addr) (cl : List (Str × Addr)) (fp : List Addr), DTs (X.blk s H scope (compEnvC scope cl C X.env) fp) B ifs fc)
    (he : ∀ (s : Shared) (H : Hp) (C : Addr) (cl : List (Str × Addr)) (fp : List Addr), DE (X.blk s H scope (compEnvC scope cl C X.env) fp) B elt (.own n) fe) (hs : ∀ x, foldedSetIterable iter X.env x = pure x := by intro _; rfl) :
    DS X B (.Assign [.Name y py] (.ListComp elt [⟨tg, iter, ifs, 0⟩] scope pos) spos) pin mr (fun E ρ => gComp (fun ρ R => f ρ (ksOf R)) t fc fe (own.map (·.2)) ρ fun d => i < ρ.length ∧ E.nx (ρ.set i (some (n + 1, d)))) := by
  obtain ⟨g, pg, kg⟩ := hg.ok
  refine PS.imp (ps_unl (ps_setLc (tt := tDT X.K B fc) (te := tD X.K B (.own n) fe) hc hN hy hyl hsw (pi_keys (pe_lockA hi)) ok (fun s H C cl fp => pg s H scope C cl fp hol) ht he hs)) fun Dn σ H ⟨Pn, Z0, F0, F, ρ, fp, E, hpl, S, hf, L⟩ => ?_
  refine tD_lcK (Q := fun x H1 => Dn.nx (σ.set i (some x)) H1) kg (tDM_of (pin := pin) (K := X.K) ⟨Pn, Z0, F0, F, ρ, fp, fun d ρ' => i < ρ'.length ∧ E.nx (ρ'.set i (some (n + 1, d))), hpl, S, hf, fun F' H' ρ' fp' v d f' S' hv ap hR => ?_⟩)
  obtain ⟨fp2, S2⟩ := S'.set hv ap hR.1 (by omega)
  exact L.nx F' H' _ _ fp2 S2 hR.2
end
end GK

namespace GK
open PySem PySem.Spec PyProof.Rows L2

/-! ### dict comprehensions, keys of either kind -/
section
variable {X : Cx} {pins : List (Addr × Obj)} {σ : L2.St} {H : Hp} {s : Shared}
/-- what a comprehension puts -/
theorem put_comp {E : Value → Shared → Prop} {Q : Unit → Shared → Prop} {a : Addr} {y v : V} {u r : Value} {H' : Hp} (hu : X.A.units + 1 < cLine) (I : L2.Inv X pins σ H s) (g : DPut H a y v H') (ry : RelV y u) (rv : RelV v r) (h : ∀ s', L2.Inv X pins σ H' s' → Q () s') :
    wpAny (model X.prog X.w) X.A (dictSet a u r) Q E s := by
  rcases g with ⟨kvs, k, e, rfl, hl, rfl⟩ | ⟨kvs, k, b, e, rfl, eb, hl, rfl⟩
  · exact d_dictSet I e hl ry rv h
  · obtain rfl : u = Value.ref b := ry
    obtain ⟨z, nd, ws, rel, at_⟩ := dt_of I.hok e
    have le : (putK kvs k v).length ≤ sizeLine := Nat.le_trans (length_putK kvs k v) hl
    refine wpAny_dictSet_heap (hsz := by rw [← Paired.length rel]; exact z) (show X.A.units < cLine from Nat.lt_of_succ_lt hu) (key_of I.hok eb) at_ fun h2 at2 same => ?_
    obtain ⟨q, es, ep, k1, k2, k3, k4, _, k5⟩ := at2
    refine h _ (d_write I (by rw [e]; trivial) same ⟨q, k1⟩ ⟨le, nd, _, (rel.put k eb rv).keeps fun c ys ec => ?_, q, es, ep, k1, k2, k3, k4, k5⟩)
    rw [upd_ne (ne_of ec e fun z => nomatch z), ec]
/-- the new dict -/
def emH : Bool → HO
  | false => .dK []
  | true => .dT []
def emD : Bool → D
  | false => .dK []
  | true => .dT []
theorem em_ok (b : Bool) (h : Heap) {P : Program} {w : World} {H : Hp} (hb : sysModules < h.objs.size) : ObjOk P w H (h.push { cls := .type "dict", data := .dict #[] }) h.objs.size (emH b) := by
  cases b with
  | false => exact dk_empty h hb
  | true => exact dt_empty h hb
/-- {k: v for tg in iter if ..} -/
def tDcB (bk : Bool) (wi : TI) (g : TG) (tt : TT) (tk tv : TE) (vs : List Nat) : TE := fun σ H Q => wi σ H fun J H1 => ∀ Da, H1 Da = none → ∃ W : Nat → Nat → Hp → Prop, (∃ m, W 0 m (upd H1 Da (emH bk))) ∧ ∀ i m H, W i m H →
  (J.stop i H ∧ Q (.ref Da) H) ∨ (J.go i H ∧ ∃ Nx : Hp → Prop, (∀ H', Nx H' → ∃ m', m' < m ∧ W (i + 1) m' H') ∧ ∀ x H', J.yld i H x H' → g x (L2.wipe σ vs) H' fun σ2 H2 => L2.wipe σ2 vs = L2.wipe σ vs ∧ tt σ2 H2 fun b H3 =>
    if b = true then tk σ2 H3 fun y H4 => tv σ2 H4 fun z H5 => ∃ H6, DPut H5 Da y z H6 ∧ Nx H6 else Nx H3)
theorem dcB_core {pins : List (Addr × Obj)} {s : Shared} {σ : L2.St} {H : Hp} {Q : VK} {use : Option (Value → Sem Unit)} {Qf : Value → Shared → Prop} {pos' : Pos} {bk : Bool} {kx vx tg iter : Expr} {ifs : List Expr} {scope : Scope} {own : List (Str × Nat)} {pos : Pos} {wi : TI} {g : TG} {tt : TT} {tk tv : TE} (hu : X.A.units + 1 < cLine) (hc : X.calm = true) (hN : X.N.Nodup) (I : L2.Inv X pins σ H s) (hi : PI X tg iter wi) (ok : BlkOk X.N X.env.scope scope own)
    (hg : ∀ (s : Shared) (H : Hp) (C : Addr) (cl : List (Str × Addr)) (fp : List Addr), PG (X.blk s H scope (compEnvC scope cl C X.env) fp) tg g) (ht : ∀ (s : Shared) (H : Hp) (C : Addr) (cl : List (Str × Addr)) (fp : List Addr), PTs (X.blk s H scope (compEnvC scope cl C X.env) fp) ifs tt)
    (hk : ∀ (s : Shared) (H : Hp) (C : Addr) (cl : List (Str × Addr)) (fp : List Addr), PE (X.blk s H scope (compEnvC scope cl C X.env) fp) kx tk)
    (hv : ∀ (s : Shared) (H : Hp) (C : Addr) (cl : List (Str × Addr)) (fp : List Addr), PE (X.blk s H scope (compEnvC scope cl C X.env) fp) vx tv) (hs : ∀ x, foldedSetIterable iter X.env x = pure x)
    (h : tDcB bk wi g tt tk tv (own.map (·.2)) σ H Q)
    (hRR : ∀ Da C s' m H', L2.Inv X pins σ H' s' → Q (.ref Da) H' → s'.heap.Ns C m → FpOk X pins H' C → compPost (model X.prog X.w) X.A X.xe use Qf (.ref Da) C (.ok .next) s') :
    wpAny (model X.prog X.w) X.A (comprehension (.DictComp kx vx [⟨tg, iter, ifs, 0⟩] scope pos) scope X.env pos' newDict false (eval iter X.env) use) Qf X.xe s := by
  have clos : ∀ y ∈ scope.names, y.2 = .free → ∃ c, X.env.cells.lookup y.1 = some c := fun y hy e => (ok.free y hy e).elim (fun k => I.ok.has _ (.inl k)) fun k => I.ok.has _ (.inr k)
  refine wpAny_comprehension_free (use := use) rfl hs (closure_ok clos) ok.kind (fun y hy e => by rw [ok.uniq y hy, e]) (thn (hi.run pins s σ H _ I h) fun xv sA hx => thn hx fun itv sB hB => ?_)
  obtain ⟨it, fp, tn, J, HB, rfl, IB, T, stB, fB, q⟩ := hB
  refine wpAny_newObj_type (newEnv_comp ?_)
  obtain ⟨Da, hDa⟩ : ∃ n, n = sB.heap.objs.size := ⟨_, rfl⟩
  have hfree : HB Da = none := IB.hok.fresh (Nat.le_of_eq hDa.symm)
  obtain ⟨W, ⟨m0, w0⟩, turn⟩ := q Da hfree
  rw [← hDa]
  obtain ⟨sC, hsC⟩ : ∃ x : Shared, x = { sB with heap := sB.heap.push { cls := .type "dict", data := .dict #[] } } := ⟨_, rfl⟩
  have hC : sC.heap = sB.heap.push { cls := .type "dict", data := .dict #[] } := by rw [hsC]
  obtain ⟨HC, hHC⟩ : ∃ x : Hp, x = upd HB Da (emH bk) := ⟨_, rfl⟩
  have IC : L2.Inv X pins σ HC sC := by
    rw [hHC, hsC]
    exact IB.laid (t' := sB.toks) (fun b o e => Heap.get?_push_of_some _ e) (Nat.le_of_eq hDa.symm) (hDa ▸ em_ok bk sB.heap IB.big)
  rw [← hsC]
  rw [← hHC] at w0
  have small : ∀ b ∈ fp, b < sB.heap.objs.size := fun b hb => (T.obj _ _ stB b hb).elim fun o h => Heap.lt_size h.1
  have fC : ∀ b ∈ fp, FpOk X pins HC b ∧ b < sC.heap.objs.size := fun b hb =>
    ⟨⟨by rw [hHC, upd_ne (by rw [hDa]; exact Nat.ne_of_lt (small b hb))]; exact (fB b hb).1, (fB b hb).2⟩, by rw [hC, Heap.size_push]; exact Nat.lt_succ_of_lt (small b hb)⟩
  have stC : tn 0 sC.heap := T.keep _ _ _ stB fun b _ o e => by rw [hC]; exact Heap.get?_push_of_some _ e
  have I0 := block_start IC ok hN fC
  have hlp : ∀ b ∈ fp, HC b = none := fun b hb => (fC b hb).1.1
  have pg := hg sC HC sC.heap.objs.size (cellsFrom (sC.heap.objs.size + 1) scope.names (cloFrom X.env.cells scope.names [])) fp
  have pt := ht sC HC sC.heap.objs.size (cellsFrom (sC.heap.objs.size + 1) scope.names (cloFrom X.env.cells scope.names [])) fp
  have pk := hk sC HC sC.heap.objs.size (cellsFrom (sC.heap.objs.size + 1) scope.names (cloFrom X.env.cells scope.names [])) fp
  have pv := hv sC HC sC.heap.objs.size (cellsFrom (sC.heap.objs.size + 1) scope.names (cloFrom X.env.cells scope.names [])) fp
  change codeAny _ _ (.compStart (.DictComp kx vx [⟨tg, iter, ifs, 0⟩] scope pos) 0 (.ref it) (.ref Da) (compEnvC scope (cellsFrom (sC.heap.objs.size + 1) scope.names (cloFrom X.env.cells scope.names [])) sC.heap.objs.size X.env)) (compPost (model X.prog X.w) X.A X.xe use Qf (.ref Da) sC.heap.objs.size) { sC with heap := pushCells (sC.heap.push { cls := .type "dict", data := .dict #[] }) scope.names }
  generalize hce : compEnvC scope (cellsFrom (sC.heap.objs.size + 1) scope.names (cloFrom X.env.cells scope.names [])) sC.heap.objs.size X.env = ce at I0 pg pt pk pv ⊢
  have cL : ce.locals = sC.heap.objs.size := by rw [← hce]; rfl
  generalize hsE : ({ sC with heap := pushCells (sC.heap.push { cls := .type "dict", data := .dict #[] }) scope.names } : Shared) = sE at I0 ⊢
  have stE : tn 0 sE.heap := T.keep _ _ _ stC fun b _ o e => by rw [← hsE]; exact pushCells_keeps _ _ _ _ (Heap.get?_push_of_some _ e)
  have stat : ∀ {σ' : L2.St} {H' : Hp} {s' : Shared}, L2.Inv (X.blk sC HC scope ce fp) [] σ' H' s' → (∀ b ∈ fp, H' b = none) → ∀ b ∈ fp, FpOk (X.blk sC HC scope ce fp) [] H' b := fun {σ' H' s'} I' hn b hb =>
    ⟨hn b hb, (I'.ok.exf b hb).1, I'.ok.exfs b hb, .inl hb, fun x c e => (I'.ok.exf b hb).2 x c e, fun p hp => by cases hp⟩
  have run := compLoop_anyD (prog := X.prog) (w := X.w) (A := X.A) (kx := kx) (vx := vx) (target := tg) (iter := iter) (ifs := ifs) (scope := scope) (pos := pos) (it := .ref it) (D := Da) (env := ce)
    (R := compPost (model X.prog X.w) X.A X.xe use Qf (.ref Da) sC.heap.objs.size)
    (fun n s' => ∃ i H', L2.Inv (X.blk sC HC scope ce fp) [] (L2.wipe σ (own.map (·.2))) H' s' ∧ tn i s'.heap ∧ (∀ b ∈ fp, H' b = none) ∧ W i n H') (by
      rintro n s5 ⟨i, H5, I5, st5, n5, w5⟩
      rcases turn i n H5 w5 with ⟨stop, qq⟩ | ⟨go, Nx, hNx, step⟩
      · refine thnF (T.done (X.blk sC HC scope ce fp) rfl rfl rfl hc i [] s5 _ H5 (fun _ _ => False) I5 (stat I5 n5) st5 stop) fun r s6 ⟨hr, I6⟩ => ?_
        subst hr
        have I7 : L2.Inv X pins σ H5 s6 := IC.call' (ch := fp) I6.os I6.base I6.hok I6.bare fun b hb => ⟨(fC b hb).1.2.2.2.1, (fC b hb).1.2.1, (fC b hb).1.2.2.2.2.1, (fC b hb).1.2.2.2.2.2⟩
        have nC : H5 sC.heap.objs.size = none := by rw [← cL]; exact I6.free
        obtain ⟨m, hn, _⟩ := I6.loc
        have hn : s6.heap.Ns sC.heap.objs.size m := by rw [← cL]; exact hn
        exact hRR Da sC.heap.objs.size s6 m H5 I7 qq hn (IC.fpOk (Nat.le_refl _) nC)
      · refine thnF (T.item (X.blk sC HC scope ce fp) rfl rfl rfl hc i [] s5 _ H5 (fun _ _ => False) I5 (stat I5 n5) st5 go) fun r s6 ⟨u, hr, h6⟩ => ?_
        subst hr
        refine thnF h6 fun _ s7 ⟨x, H7, I7, r7, y7, st7, n7⟩ => ?_
        refine thnF (pg.run _ s7 _ H7 x u _ (I7.pinned (stat I7 n7) (T.obj _ _ st7)) r7 (step x H7 y7)) fun _ s8 ⟨σ8, H8, I8, hw8, q8⟩ => ?_
        refine thnF (pt.run _ s8 σ8 H8 _ I8 q8) fun b s9 ⟨H9, I9, q9⟩ => ?_
        have fin : ∀ {s' : Shared} {H' : Hp}, L2.Inv (X.blk sC HC scope ce fp) ([] ++ pinsAt fp s7.heap) σ8 H' s' → Nx H' → ∃ m, m < n ∧ ∃ i H', L2.Inv (X.blk sC HC scope ce fp) [] (L2.wipe σ (own.map (·.2))) H' s' ∧ tn i s'.heap ∧ (∀ b ∈ fp, H' b = none) ∧ W i m H' := fun {s' H'} I' nx => by
          obtain ⟨m', hm, w'⟩ := hNx H' nx
          have kept : ∀ b ∈ fp, ∀ o, s7.heap.get? b = some o → s'.heap.get? b = some o ∧ H' b = none := fun b hb o e =>
            (I'.pin (b, o) (List.mem_append_right _ (List.mem_append_right _ (mem_pinsAt hb e)))).imp id fun z => z.1
          refine ⟨m', hm, i + 1, H', (I'.unpinned (pins := [])).weak (by rw [← hw8, wipe_length]) (fun j v e => (wipe_some (by rw [← hw8] at e; exact e)).1), T.keep _ _ _ st7 fun b hb o e => (kept b hb o e).1, fun b hb => ?_, w'⟩
          obtain ⟨o, e, _⟩ := T.obj _ _ st7 b hb
          exact (kept b hb o e).2
        cases b with
        | false =>
          rw [if_neg Bool.false_ne_true] at q9
          rw [if_neg Bool.false_ne_true]
          exact fin I9 q9
        | true =>
          rw [if_pos rfl] at q9
          rw [if_pos rfl]
          refine thnF (pk.run _ s9 σ8 H9 _ I9 q9) fun z sK ⟨yk, HK, IK, rk, qk⟩ => ?_
          refine thnF (pv.run _ sK σ8 HK _ IK qk) fun z2 sV ⟨yv, HV, IV, rv, HP, pt2, nx⟩ => ?_
          exact put_comp (X := X.blk sC HC scope ce fp) hu IV pt2 rk rv fun sP IP => fin IP nx) m0 (s := sE) ⟨0, HC, I0, stE, hlp, w0⟩
  exact codeAny_compStart_dict run (T.self X.A 0 _ _ _ stE run)
theorem pe_dcB {bk : Bool} {kx vx tg iter : Expr} {ifs : List Expr} {scope : Scope} {own : List (Str × Nat)} {pos : Pos} {wi : TI} {g : TG} {tt : TT} {tk tv : TE} (hu : X.A.units + 1 < cLine) (hc : X.calm = true) (hN : X.N.Nodup) (hi : PI X tg iter wi) (ok : BlkOk X.N X.env.scope scope own)
    (hg : ∀ (s : Shared) (H : Hp) (C : Addr) (cl : List (Str × Addr)) (fp : List Addr), PG (X.blk s H scope (compEnvC scope cl C X.env) fp) tg g) (ht : ∀ (s : Shared) (H : Hp) (C : Addr) (cl : List (Str × Addr)) (fp : List Addr), PTs (X.blk s H scope (compEnvC scope cl C X.env) fp) ifs tt)
    (hk : ∀ (s : Shared) (H : Hp) (C : Addr) (cl : List (Str × Addr)) (fp : List Addr), PE (X.blk s H scope (compEnvC scope cl C X.env) fp) kx tk)
    (hv : ∀ (s : Shared) (H : Hp) (C : Addr) (cl : List (Str × Addr)) (fp : List Addr), PE (X.blk s H scope (compEnvC scope cl C X.env) fp) vx tv) (hs : ∀ x, foldedSetIterable iter X.env x = pure x) :
    PE X (.DictComp kx vx [⟨tg, iter, ifs, 0⟩] scope pos) (tDcB bk wi g tt tk tv (own.map (·.2))) := by
  refine ⟨fun pins s σ H Q I h => ?_⟩
  rw [arm_eval_DictComp]
  refine dcB_core hu hc hN I hi ok hg ht hk hv hs h fun Da C s' m H' I' q hn f => ⟨m, hn, fun h2 sb => ?_⟩
  obtain ⟨f0, f1, f2, f3, f4, f5⟩ := f
  exact ⟨.ref Da, H', I'.turned (t' := s'.toks) (fun b o hb e => (sb.2 b hb).trans e) f0 f1 f3 f4 f5, rfl, q⟩
/-- y = {..} on one line, y a plain local -/
theorem ps_setDcB {i : Nat} {y : Str} {py spos : Pos} {bk : Bool} {kx vx tg iter : Expr} {ifs : List Expr} {scope : Scope} {own : List (Str × Nat)} {pos : Pos} {wi : TI} {g : TG} {tt : TT} {tk tv : TE} (hu : X.A.units + 1 < cLine) (hc : X.calm = true) (hN : X.N.Nodup) (hy : X.N[i]? = some y) (hyl : X.env.scope.names.lookup y = some .local) (hsw : swapsWith (.DictComp kx vx [⟨tg, iter, ifs, 0⟩] scope pos) (some (.Name y py)) spos.line X.env = pure true) (hi : PI X tg iter wi) (ok : BlkOk X.N X.env.scope scope own)
    (hg : ∀ (s : Shared) (H : Hp) (C : Addr) (cl : List (Str × Addr)) (fp : List Addr), PG (X.blk s H scope (compEnvC scope cl C X.env) fp) tg g) (ht : ∀ (s : Shared) (H : Hp) (C : Addr) (cl : List (Str × Addr)) (fp : List Addr), PTs (X.blk s H scope (compEnvC scope cl C X.env) fp) ifs tt)
    (hk : ∀ (s : Shared) (H : Hp) (C : Addr) (cl : List (Str × Addr)) (fp : List Addr), PE (X.blk s H scope (compEnvC scope cl C X.env) fp) kx tk)
    (hv : ∀ (s : Shared) (H : Hp) (C : Addr) (cl : List (Str × Addr)) (fp : List Addr), PE (X.blk s H scope (compEnvC scope cl C X.env) fp) vx tv) (hs : ∀ x, foldedSetIterable iter X.env x = pure x) :
    PS X (.Assign [.Name y py] (.DictComp kx vx [⟨tg, iter, ifs, 0⟩] scope pos) spos) (tAsg (tDcB bk wi g tt tk tv (own.map (·.2))) (L2.gName i)) := by
  refine ⟨fun pins s σ H D I h => ?_⟩
  rw [exec_Assign_Name_used _ _ _ _ hsw]
  refine wpAny_bind (wpAny_standAt (wpAny_bind ?_))
  change wpAny _ X.A (do let _ ← comprehension (.DictComp kx vx [⟨tg, iter, ifs, 0⟩] scope pos) scope X.env (firstIterPos [⟨tg, iter, ifs, 0⟩] pos) newDict false (eval iter X.env) (some (assign (.Name y py) X.env))) _ _ s
  have h : tDcB bk wi g tt tk tv (own.map (·.2)) σ H (fun x H1 => L2.gName i x σ H1 D.nx) := h
  refine wpAny_bind (thn (dcB_core (Qf := fun _ s' => SP X pins D .next s') hu hc hN I hi ok hg ht hk hv hs h fun Da C s' m H' I' q hn f => ?_) fun _ s' hq => wpAny_pure (wpAny_pure hq))
  change wpAny _ _ (assign (.Name y py) X.env (.ref Da)) _ _ _
  refine wpAny_assign_Name (store_ok2 (v := V.ref Da) I' hN hy (.inl hyl) rfl (fun s2 I2 ⟨a, sb, ha⟩ => ?_) (.inr hyl))
  obtain ⟨f0, f1, f2, f3, f4, f5⟩ := f
  have haC : C ≠ a := by
    rcases ha with z | z
    · rw [z]; exact f1
    · exact fun e => f4 y a z e.symm
  exact ⟨m, hn.sameBut sb haC, fun h3 sb3 => ⟨_, H', I2.turned (t' := s2.toks) (fun b o hb e => (sb3.2 b hb).trans e) f0 f1 f3 f4 f5, q⟩⟩
theorem sw_trueD {kx vx : Expr} {gs : List Comprehension} {scope : Scope} {pos py : Pos} {y : Str} {l : Nat} {env : PySem.Env} (hk : env.scope.kind = .function) (hy : env.scope.names.lookup y = some .local) (hl : (py.line == pos.line) = true)
    (ha : (scope.names.any fun (n, k) => n == y && (k == .local || k == .cell)) = false) : swapsWith (.DictComp kx vx gs scope pos) (some (.Name y py)) l env = pure true := by
  have ky : env.kindOf y = some .local := hy
  have hb : env.blockKind = .function := by unfold PySem.Env.blockKind; rw [hk]; rfl
  unfold swapsWith
  simp only [hb, ky, ha, Expr.pos, hl]
  rfl
end
end GK

namespace GK
open PySem PySem.Spec PyProof.Rows L2

def putDD : D → D → D → Option D
  | .dK es, k, v => match keyOf k with
    | some k => if es.length < sizeLine then some (.dK (putD es k v)) else none
    | none => none
  | .dT es, k, v => match keyT k with
    | some k => if es.length < sizeLine then some (.dT (putD es k v)) else none
    | none => none
  | _, _, _ => none
def compDD (t : D → Env → Option Env) (fc : FT) (fk fv : FE) (ρ : Env) : List D → D → (D → Prop) → Prop
  | [], acc, R => R acc
  | x :: xs, acc, R => ∃ ρ', t x ρ = some ρ' ∧ fc ρ' fun b => if b = true then fk ρ' fun k => fv ρ' fun v => ∃ acc', putDD acc k v = some acc' ∧ compDD t fc fk fv ρ xs acc' R else compDD t fc fk fv ρ xs acc R
section
variable {K : PySem.W.Frag} {B A fp : List Addr} {F F1 F' H H1 H' : Hp} {σ : L2.St} {ρ : Env}
theorem dput_ok {Da : Addr} {acc acc' k v : D} {y z : V} (w : WF B F H) (o : Own K F H 1 (.ref Da) acc [Da]) (ry : R K F y k) (rz : R K F z v) (e : putDD acc k v = some acc') :
    ∃ u, DPut H Da y z (upd H Da u) ∧ erO u = u ∧ Own K F (upd H Da u) 1 (.ref Da) acc' [Da] := by
  cases acc <;> try (cases e; done)
  · rename_i es
    unfold putDD at e
    dsimp only at e
    split at e
    · rename_i kk ek
      split at e
      · rename_i hz
        cases e
        obtain ⟨a, kvs, f, ea, h1, ef, hk, t⟩ := o
        cases ea
        have hlen : kvs.length = es.length := by have := congrArg List.length hk; simpa using this
        have ey := keyOf_R ek ry
        subst ey
        have ef' : f = [] := (List.cons.inj ef).2.symm
        subst ef'
        exact ⟨_, DPut.k h1 (by rw [hlen]; exact hz), rfl, _, _, [], rfl, upd_same, rfl, put_keys hk, OwnL.zero (put_rl rz hk t.toRL0)⟩
      · cases e
    · cases e
  · rename_i es
    unfold putDD at e
    dsimp only at e
    split at e
    · rename_i kk ek
      split at e
      · rename_i hz
        cases e
        obtain ⟨a, kvs, f, ea, h1, ef, hk, t⟩ := o
        cases ea
        have hlen : kvs.length = es.length := by have := congrArg List.length hk; simpa using this
        cases k <;> try (cases ek; done)
        obtain ⟨ta, ws, rfl, ht, hrl⟩ := ry.tupI
        have ew := keysOf_R ek hrl
        subst ew
        have ef' : f = [] := (List.cons.inj ef).2.symm
        subst ef'
        exact ⟨_, DPut.t h1 (tup_of w (w.sub _ _ ht)) (by rw [hlen]; exact hz), rfl, _, _, [], rfl, upd_same, rfl, put_keys hk, OwnL.zero (put_rl rz hk t.toRL0)⟩
      · cases e
    · cases e
structure DcW (K : PySem.W.Frag) (B : List Addr) (F1 H1 : Hp) (Da : Addr) (F H : Hp) (acc : D) : Prop where
  s : Step B [] F1 H1 F H
  own : Own K F H 1 (.ref Da) acc [Da]
  FD : F Da = none
theorem DcW.step {Da : Addr} {acc : D} (hB : Da ∉ B) (w : DcW K B F1 H1 Da F H acc) (s : Step B [] F H F' H') : DcW K B F1 H1 Da F' H' acc := by
  obtain ⟨o, e, mu⟩ := w.own.there Da (by simp)
  refine ⟨w.s.trans s fun a h => (by cases h), Own.mono s.fs (fun a ha o e => s.same a o (by rw [List.mem_singleton.mp ha]; exact hB) e) w.own, s.out e mu hB w.FD fun z => (by cases z)⟩
theorem DcW.unlockd {Da a : Addr} {od : Obj} {u : HO} {acc : D} (h : H1 a = some u) (hd : isDct u) (hB : a ∉ B) (hD : H1 Da = none) (w : DcW K B F1 (upd H1 a (.frz od u)) Da F H acc) : DcW K B F1 H1 Da F (upd H a u) acc := by
  have hne : Da ≠ a := fun z => by rw [z, h] at hD; cases hD
  exact ⟨w.s.unlockd h hd hB, w.own.upd fun z => hne (List.mem_singleton.mp z).symm, w.FD⟩
theorem DcW.post {R : D → Prop} {Q : VK} {Da : Addr} {acc : D} (hD : H1 Da = none) (hB : Da ∉ B) (w : DcW K B F1 H1 Da F H acc) (hR : R acc) (k : Post K B A F1 H1 (.own 1) R Q) : Q (.ref Da) H :=
  k F H _ acc [Da] (w.s.weak fun a h => (by cases h)) w.own (fun a ha => by rw [List.mem_singleton.mp ha]; exact ⟨.inr hD, w.FD, hB⟩) (by simp) hR
theorem dc_core' {X : Cx} {bk : Bool} {t : D → Env → Option Env} {fc : FT} {fk fv : FE} {g : TG} {J : It} {xs : List D} {R : D → Prop} {Q : VK} {Z : Hp} {Da : Addr} {vs : List Nat} {ρw : Env}
    (kg : ∀ (B : List Addr) (F H : Hp) (σ : L2.St) (ρ ρ' : Env) (fp : List Addr) (v : V) (d : D), StOk X.K B [] noH noH F H (L2.wipe σ vs) ρ fp → GK.R X.K F v d → t d ρ = some ρ' →
      ∀ Q : L2.St → Hp → Prop, (∀ σ' fp', StOk X.K B [] noH noH F H σ' ρ' fp' → L2.wipe σ' vs = L2.wipe σ vs → Q σ' H) → g v (L2.wipe σ vs) H Q)
    (S : StOk X.K B [] noH noH F1 H1 (L2.wipe σ vs) ρw fp) (it : ItD X.K B Z F1 J xs) (hZ : ∀ a o, Z a = some o → a ∉ B ∧ H1 a = some o) (hD : H1 Da = none) (hx : compDD t fc fk fv ρw xs (emD bk) R)
    (fin : ∀ F H acc, DcW X.K B F1 H1 Da F H acc → R acc → Q (.ref Da) H) :
    ∃ W : Nat → Nat → Hp → Prop, (∃ m, W 0 m (upd H1 Da (emH bk))) ∧ ∀ i m H, W i m H → (J.stop i H ∧ Q (.ref Da) H) ∨ (J.go i H ∧ ∃ Nx : Hp → Prop, (∀ H', Nx H' → ∃ m', m' < m ∧ W (i + 1) m' H') ∧ ∀ x H', J.yld i H x H' →
      g x (L2.wipe σ vs) H' fun σ2 H2 => L2.wipe σ2 vs = L2.wipe σ vs ∧ tDT X.K B fc σ2 H2 fun b H3 => if b = true then tD X.K B (.own 0) fk σ2 H3 fun y H4 => tD X.K B (.own 0) fv σ2 H4 fun z H5 => ∃ H6, DPut H5 Da y z H6 ∧ Nx H6 else Nx H3) := by
  have hB : Da ∉ B := S.wf.notB hD
  have hF : F1 Da = none := F_none S.wf hD
  have h0 : Own X.K F1 (upd H1 Da (emH bk)) 1 (.ref Da) (emD bk) [Da] := by
    cases bk
    · exact ⟨Da, [], [], rfl, upd_same, rfl, rfl, rfl⟩
    · exact ⟨Da, [], [], rfl, upd_same, rfl, rfl, rfl⟩
  have e0 : erO (emH bk) = emH bk := by cases bk <;> rfl
  refine ⟨fun i m H => ∃ F acc, DcW X.K B F1 H1 Da F H acc ∧ m = xs.length - i ∧ i ≤ xs.length ∧ compDD t fc fk fv ρw (xs.drop i) acc R,
    ⟨xs.length, F1, emD bk, ⟨(Step.refl S.wf).mutNew hD hF hB e0, h0, hF⟩, rfl, Nat.zero_le _, hx⟩, ?_⟩
  rintro i m H ⟨F, acc, w, rfl, hi, hr⟩
  obtain ⟨k1, k2⟩ := it i F H w.s.wf (fun a o e => w.s.same a o (hZ a o e).1 (hZ a o e).2) w.s.fs
  by_cases hlt : i < xs.length
  · refine .inr ⟨(k1 hlt).1, fun H' => ∃ F acc, DcW X.K B F1 H1 Da F H' acc ∧ compDD t fc fk fv ρw (xs.drop (i + 1)) acc R, fun H' ⟨F, acc, w, h⟩ => ⟨xs.length - (i + 1), by omega, F, acc, w, rfl, hlt, h⟩, fun x H' y => ?_⟩
    obtain ⟨F2, d, ed, s2, r2⟩ := (k1 hlt).2 x H' y
    have w2 := w.step hB s2
    rw [List.drop_eq_getElem_cons hlt] at hr
    have ed' : xs[i] = d := Option.some.inj ((List.getElem?_eq_getElem hlt).symm.trans ed)
    rw [ed'] at hr
    obtain ⟨ρ', et, hb'⟩ := hr
    refine kg B F2 H' σ ρw ρ' fp x d (S.step w2.s fun a h => (by cases h)) r2 et _ fun σ2 fp2 S3 hw => ⟨hw, ?_⟩
    refine ⟨F2, ρ', fp2, _, S3, hb', fun F3 H3 b s3 hb => ?_⟩
    have w3 := w2.step hB s3
    cases b with
    | false =>
      dsimp only at hb ⊢
      rw [if_neg Bool.false_ne_true] at hb ⊢
      exact ⟨F3, acc, w3, hb⟩
    | true =>
      dsimp only at hb ⊢
      rw [if_pos rfl] at hb ⊢
      have S4 := S3.step s3 (fun a h => by cases h)
      refine ⟨F3, ρ', fp2, _, S4, hb, fun F4 H4 yk dk fy s4 hy oy ny hk => ?_⟩
      refine ⟨F4, ρ', fp2, _, S4.step s4 (fun a h => by cases h), hk, fun F5 H5 yv dv fv' s5 hv ov nv ⟨acc', ea, hk2⟩ => ?_⟩
      have w5 := (w3.step hB s4).step hB s5
      obtain ⟨u, dp, eu, ow⟩ := dput_ok w5.s.wf w5.own (hy.1.mono s5.fs) hv.1 ea
      exact ⟨_, dp, F5, acc', ⟨w5.s.mutNew hD w5.FD hB eu, ow, w5.FD⟩, hk2⟩
  · have e : i = xs.length := by omega
    subst e
    rw [List.drop_length] at hr
    exact .inl ⟨k2 (Nat.le_refl _), fin F H acc w hr⟩
end
def gCompD (fi : FI) (bk : Bool) (t : D → Env → Option Env) (fc : FT) (fk fv : FE) (vs : List Nat) : FE := fun ρ R => fi ρ fun xs => compDD t fc fk fv (wipeE ρ vs) xs (emD bk) R
section
variable {X : Cx} {kx vx tg iter : Expr} {ifs : List Expr} {scope : Scope} {own : List (Str × Nat)} {pos : Pos} {f fk fv : FE} {fi : FI} {fc : FT} {t : D → Env → Option Env}
theorem de_dc (bk : Bool) (hu : X.A.units + 1 < cLine) (hc : X.calm = true) (hN : X.N.Nodup) (hi : DI X B tg iter fi) (ok : BlkOk X.N X.env.scope scope own) (hg : DGc X tg (own.map (·.2)) t) (hol : ∀ v ∈ own.map (·.2), ∃ x, X.N[v]? = some x ∧ ∀ C cl, (compEnvC scope cl C X.env).scope.names.lookup x = some .local)
    (ht : ∀ (s : Shared) (H : Hp) (C : Addr) (cl : List (Str × Addr)) (fp : List Addr), DTs (X.blk s H scope (compEnvC scope cl C X.env) fp) B ifs fc)
    (hk : ∀ (s : Shared) (H : Hp) (C : Addr) (cl : List (Str × Addr)) (fp : List Addr), DE (X.blk s H scope (compEnvC scope cl C X.env) fp) B kx (.own 0) fk)
    (hv : ∀ (s : Shared) (H : Hp) (C : Addr) (cl : List (Str × Addr)) (fp : List Addr), DE (X.blk s H scope (compEnvC scope cl C X.env) fp) B vx (.own 0) fv) (hs : ∀ x, foldedSetIterable iter X.env x = pure x := by intro _; rfl) :
    DE X B (.DictComp kx vx [⟨tg, iter, ifs, 0⟩] scope pos) (.own 1) (gCompD fi bk t fc fk fv (own.map (·.2))) := by
  obtain ⟨g, pg, kg⟩ := hg.ok
  refine PE.imp (pe_dcB (bk := bk) (tt := tDT X.K B fc) (tk := tD X.K B (.own 0) fk) (tv := tD X.K B (.own 0) fv) hu hc hN hi ok (fun s H C cl fp => pg s H scope C cl fp hol) ht hk hv hs) fun σ H Q ⟨F, ρ, fp, R, S, hf, k⟩ => ⟨F, ρ, fp, _, S, hf, fun J F1 H1 xs s1 it hx Da hD => ?_⟩
  have S1 := S.step s1 fun a h => (by cases h)
  obtain ⟨fpw, Sw, _⟩ := S1.wipe (own.map (·.2))
  exact dc_core' kg Sw it (fun a o e => prot_sub e) hD hx fun F H acc w hR => w.post hD (S1.wf.notB hD) hR (k.after s1 (A1 := []) fun a h => (by cases h))
theorem de_dcK (bk : Bool) (hu : X.A.units + 1 < cLine) (hc : X.calm = true) (hN : X.N.Nodup) (hi : DE X B iter (.own 0) f) (ok : BlkOk X.N X.env.scope scope own) (hg : DGc X tg (own.map (·.2)) t) (hol : ∀ v ∈ own.map (·.2), ∃ x, X.N[v]? = some x ∧ ∀ C cl, (compEnvC scope cl C X.env).scope.names.lookup x = some .local)
    (ht : ∀ (s : Shared) (H : Hp) (C : Addr) (cl : List (Str × Addr)) (fp : List Addr), DTs (X.blk s H scope (compEnvC scope cl C X.env) fp) B ifs fc)
    (hk : ∀ (s : Shared) (H : Hp) (C : Addr) (cl : List (Str × Addr)) (fp : List Addr), DE (X.blk s H scope (compEnvC scope cl C X.env) fp) B kx (.own 0) fk)
    (hv : ∀ (s : Shared) (H : Hp) (C : Addr) (cl : List (Str × Addr)) (fp : List Addr), DE (X.blk s H scope (compEnvC scope cl C X.env) fp) B vx (.own 0) fv) (hs : ∀ x, foldedSetIterable iter X.env x = pure x := by intro _; rfl) :
    DE X B (.DictComp kx vx [⟨tg, iter, ifs, 0⟩] scope pos) (.own 1) (gCompD (fun ρ R => f ρ (ksOf R)) bk t fc fk fv (own.map (·.2))) := by
  obtain ⟨g, pg, kg⟩ := hg.ok
  refine PE.imp (pe_unl (pe_dcB (bk := bk) (tt := tDT X.K B fc) (tk := tD X.K B (.own 0) fk) (tv := tD X.K B (.own 0) fv) hu hc hN (pi_keys (pe_lockA hi)) ok (fun s H C cl fp => pg s H scope C cl fp hol) ht hk hv hs)) fun σ H Q ⟨F, ρ, fp, R, S, hf, k⟩ =>
    keys_ti (Rx := fun xs => compDD t fc fk fv (wipeE ρ (own.map fun e : Str × Nat => e.2)) xs (emD bk) R) S hf fun J F1 H1 H1' xs s1 hx S1 lk hno it Da hD => ?_
  obtain ⟨fpw, Sw, _⟩ := S1.wipe (own.map (·.2))
  refine dc_core' kg Sw it (fun a o e => prot_sub e) hD hx fun F H acc w hR => ?_
  have hD1 : H1 Da = none := (hno Da).mp hD
  have hB : Da ∉ B := S1.wf.notB hD
  refine unl_fin lk w.s (fun e => ?_) fun a od u h1 h2 h3 e => ?_
  · subst e
    exact w.post hD1 hB hR (k.after s1 (A1 := []) fun a h => (by cases h))
  · subst e
    exact (w.unlockd h1 h2 h3 hD1).post hD1 hB hR (k.after s1 (A1 := []) fun a h => (by cases h))
theorem ds_setDc (i : Nat) (bk : Bool) {pin : Nat} {mr : Mode} {y : Str} {py spos : Pos} (hu : X.A.units + 1 < cLine) (hc : X.calm = true) (hN : X.N.Nodup) (hy : X.N[i]? = some y) (hyl : X.env.scope.names.lookup y = some .local) (hp : pin ≤ i)
    (hsw : swapsWith (.DictComp kx vx [⟨tg, iter, ifs, 0⟩] scope pos) (some (.Name y py)) spos.line X.env = pure true) (hi : DI X B tg iter fi) (ok : BlkOk X.N X.env.scope scope own) (hg : DGc X tg (own.map (·.2)) t) (hol : ∀ v ∈ own.map (·.2), ∃ x, X.N[v]? = some x ∧ ∀ C cl, (compEnvC scope cl C X.env).scope.names.lookup x = some .local)
    (ht : ∀ (s : Shared) (H : Hp) (C : Addr) (cl : List (Str × Addr)) (fp : List Addr), DTs (X.blk s H scope (compEnvC scope cl C X.env) fp) B ifs fc)
    (hk : ∀ (s : Shared) (H : Hp) (C : Addr) (cl : List (Str × Addr)) (fp : List Addr), DE (X.blk s H scope (compEnvC scope cl C X.env) fp) B kx (.own 0) fk)
    (hv : ∀ (s : Shared) (H : Hp) (C : Addr) (cl : List (Str × Addr)) (fp : List Addr), DE (X.blk s H scope (compEnvC scope cl C X.env) fp) B vx (.own 0) fv) (hs : ∀ x, foldedSetIterable iter X.env x = pure x := by intro _; rfl) :
    DS X B (.Assign [.Name y py] (.DictComp kx vx [⟨tg, iter, ifs, 0⟩] scope pos) spos) pin mr (fun E ρ => gCompD fi bk t fc fk fv (own.map (·.2)) ρ fun d => i < ρ.length ∧ E.nx (ρ.set i (some (1, d)))) := by
  obtain ⟨g, pg, kg⟩ := hg.ok
  refine PS.imp (ps_setDcB (bk := bk) (tt := tDT X.K B fc) (tk := tD X.K B (.own 0) fk) (tv := tD X.K B (.own 0) fv) hu hc hN hy hyl hsw hi ok (fun s H C cl fp => pg s H scope C cl fp hol) ht hk hv hs) fun Dn σ H ⟨Pn, Z0, F0, F, ρ, fp, E, hpl, S, hf, L⟩ => ?_
  obtain ⟨F, ρ, fp, R, S, hf, k⟩ := tDM_of (pin := pin) (K := X.K) (Q := fun x H1 => Dn.nx (σ.set i (some x)) H1) (m := .own 1) (f := gCompD fi bk t fc fk fv (own.map (·.2))) ⟨Pn, Z0, F0, F, ρ, fp, fun d ρ' => i < ρ'.length ∧ E.nx (ρ'.set i (some (1, d))), hpl, S, hf, fun F' H' ρ' fp' v d f' S' hv ap hR => by
    obtain ⟨fp2, S2⟩ := S'.set hv ap hR.1 (by omega)
    exact L.nx F' H' _ _ fp2 S2 hR.2⟩
  refine ⟨F, ρ, fp, _, S, hf, fun J F1 H1 xs s1 it hx Da hD => ?_⟩
  have S1 := S.step s1 fun a h => (by cases h)
  obtain ⟨fpw, Sw, _⟩ := S1.wipe (own.map (·.2))
  exact dc_core' (Q := fun x H1 => Dn.nx (σ.set i (some x)) H1) kg Sw it (fun a o e => prot_sub e) hD hx fun F H acc w hR => w.post hD (S1.wf.notB hD) hR (k.after s1 (A1 := []) fun a h => (by cases h))
theorem ds_setDcK (i : Nat) (bk : Bool) {pin : Nat} {mr : Mode} {y : Str} {py spos : Pos} (hu : X.A.units + 1 < cLine) (hc : X.calm = true) (hN : X.N.Nodup) (hy : X.N[i]? = some y) (hyl : X.env.scope.names.lookup y = some .local) (hp : pin ≤ i)
    (hsw : swapsWith (.DictComp kx vx [⟨tg, iter, ifs, 0⟩] scope pos) (some (.Name y py)) spos.line X.env = pure true) (hi : DE X B iter (.own 0) f) (ok : BlkOk X.N X.env.scope scope own) (hg : DGc X tg (own.map (·.2)) t) (hol : ∀ v ∈ own.map (·.2), ∃ x, X.N[v]? = some x ∧ ∀ C cl, (compEnvC scope cl C X.env).scope.names.lookup x = some .local)
    (ht : ∀ (s : Shared) (H : Hp) (C : Addr) (cl : List (Str × Addr)) (fp : List Addr), DTs (X.blk s H scope (compEnvC scope cl C X.env) fp) B ifs fc)
    (hk : ∀ (s : Shared) (H : Hp) (C : Addr) (cl : List (Str × Addr)) (fp : List Addr), DE (X.blk s H scope (compEnvC scope cl C X.env) fp) B kx (.own 0) fk)
    (hv : ∀ (s : Shared) (H : Hp) (C : Addr) (cl : List (Str × Addr)) (fp : List Addr), DE (X.blk s H scope (compEnvC scope cl C X.env) fp) B vx (.own 0) fv) (hs : ∀ x, foldedSetIterable iter X.env x = pure x := by intro _; rfl) :
    DS X B (.Assign [.Name y py] (.DictComp kx vx [⟨tg, iter, ifs, 0⟩] scope pos) spos) pin mr (fun E ρ => gCompD (fun ρ R => f ρ (ksOf R)) bk t fc fk fv (own.map (·.2)) ρ fun d => i < ρ.length ∧ E.nx (ρ.set i (some (1, d)))) := by
  obtain ⟨g, pg, kg⟩ := hg.ok
  refine PS.imp (ps_unl (ps_setDcB (bk := bk) (tt := tDT X.K B fc) (tk := tD X.K B (.own 0) fk) (tv := tD X.K B (.own 0) fv) hu hc hN hy hyl hsw (pi_keys (pe_lockA hi)) ok (fun s H C cl fp => pg s H scope C cl fp hol) ht hk hv hs)) fun Dn σ H ⟨Pn, Z0, F0, F, ρ, fp, E, hpl, S, hf, L⟩ => ?_
  obtain ⟨F, ρ, fp, R, S, hf, k⟩ := tDM_of (pin := pin) (K := X.K) (Q := fun x H1 => Dn.nx (σ.set i (some x)) H1) (m := .own 1) (f := gCompD (fun ρ R => f ρ (ksOf R)) bk t fc fk fv (own.map (·.2))) ⟨Pn, Z0, F0, F, ρ, fp, fun d ρ' => i < ρ'.length ∧ E.nx (ρ'.set i (some (1, d))), hpl, S, hf, fun F' H' ρ' fp' v d f' S' hv ap hR => by
    obtain ⟨fp2, S2⟩ := S'.set hv ap hR.1 (by omega)
    exact L.nx F' H' _ _ fp2 S2 hR.2⟩
  unfold tAsg tDcB
  dsimp only
  refine keys_ti (Rx := fun xs => compDD t fc fk fv (wipeE ρ (own.map fun e : Str × Nat => e.2)) xs (emD bk) R) S hf fun J F1 H1 H1' xs s1 hx S1 lk hno it Da hD => ?_
  obtain ⟨fpw, Sw, _⟩ := S1.wipe (own.map (·.2))
  refine dc_core' (Q := fun x H1 => unlS X Dn.nx (σ.set i (some x)) H1) kg Sw it (fun a o e => prot_sub e) hD hx fun F H acc w hR => ?_
  have hD1 : H1 Da = none := (hno Da).mp hD
  have hB : Da ∉ B := S1.wf.notB hD
  refine unl_fin (Q := fun x H1 => Dn.nx (σ.set i (some x)) H1) (v := .ref Da) lk w.s (fun e => ?_) fun a od u h1 h2 h3 e => ?_
  · subst e
    exact w.post hD1 hB hR (k.after s1 (A1 := []) fun a h => (by cases h))
  · subst e
    exact (w.unlockd h1 h2 h3 hD1).post hD1 hB hR (k.after s1 (A1 := []) fun a h => (by cases h))
end
end GK

namespace GK
open PySem PySem.Spec PyProof.Rows L2

/-! ### places inside what a name owns: a[i], a.f, a[k][j] .. -/
inductive PSt where
  | fld (f : Str) | ix (k : Nat) | key (k : Key) | keyT (k : List Key)
/-- the first entry of a key is replaced -/
def setE {κ : Type} (p : κ → Bool) (x : D) : List (κ × D) → List (κ × D)
  | [] => []
  | e :: r => if p e.1 = true then (e.1, x) :: r else e :: setE p x r
def subD : D → PSt → Option D
  | .obj _ es, .fld f => es.lookup f
  | .lst ds, .ix k => ds[k]?
  | .dK es, .key k => getD' es k
  | .dT es, .keyT k => getD' es k
  | _, _ => none
def subP : D → List PSt → Option D
  | d, [] => some d
  | d, s :: p => (subD d s).bind fun e => subP e p
def setD : D → PSt → D → D
  | .obj C es, .fld f, x => .obj C (setE (fun g => f == g) x es)
  | .lst ds, .ix k, x => .lst (ds.set k x)
  | .dK es, .key k, x => .dK (setE (fun g => decide (g = k)) x es)
  | .dT es, .keyT k, x => .dT (setE (fun g => decide (g = k)) x es)
  | d, _, _ => d
def setP : D → List PSt → D → D
  | _, [], x => x
  | d, s :: p, x => match subD d s with
    | some e => setD d s (setP e p x)
    | none => d
def AtV (B : List Addr) (H : Hp) (v : V) : PSt → V → Prop
  | .fld f, w => ∃ a C dx fs, v = .ref a ∧ a ∉ B ∧ H a = some (.ins C dx fs) ∧ fs.lookup f = some w
  | .ix k, w => ∃ a vs, v = .ref a ∧ a ∉ B ∧ H a = some (.lst vs) ∧ vs[k]? = some w
  | .key k, w => ∃ a kvs, v = .ref a ∧ a ∉ B ∧ H a = some (.dK kvs) ∧ valV kvs k = some w
  | .keyT k, w => ∃ a kvs, v = .ref a ∧ a ∉ B ∧ H a = some (.dT kvs) ∧ valV kvs k = some w
def PathV (B : List Addr) (H : Hp) : V → List PSt → V → Prop
  | v, [], w => w = v
  | v, s :: p, w => ∃ x, AtV B H v s x ∧ PathV B H x p w
section
variable {K : PySem.W.Frag} {B A fp : List Addr} {F F1 F' H H1 H' : Hp} {σ : L2.St} {ρ : Env} {n m : Nat}
theorem AtV.det {v w w' : V} : ∀ {s : PSt}, AtV B H v s w → AtV B H v s w' → w = w'
  | .fld f, ⟨a, C, dx, fs, e, _, h, l⟩, ⟨a', C', dx', fs', e', _, h', l'⟩ => by
    subst e; cases e'; rw [h] at h'; cases h'; rw [l] at l'; exact Option.some.inj l'
  | .ix k, ⟨a, fs, e, _, h, l⟩, ⟨a', fs', e', _, h', l'⟩ => by
    subst e; cases e'; rw [h] at h'; cases h'; rw [l] at l'; exact Option.some.inj l'
  | .key k, ⟨a, fs, e, _, h, l⟩, ⟨a', fs', e', _, h', l'⟩ => by
    subst e; cases e'; rw [h] at h'; cases h'; rw [l] at l'; exact Option.some.inj l'
  | .keyT k, ⟨a, fs, e, _, h, l⟩, ⟨a', fs', e', _, h', l'⟩ => by
    subst e; cases e'; rw [h] at h'; cases h'; rw [l] at l'; exact Option.some.inj l'
theorem PathV.det : ∀ {p : List PSt} {v w w' : V}, PathV B H v p w → PathV B H v p w' → w = w'
  | [], _, _, _, h, h' => h.trans h'.symm
  | s :: p, _, _, _, ⟨x, h1, h2⟩, ⟨x', h1', h2'⟩ => by
    have := h1.det h1'
    subst this
    exact h2.det h2'
theorem AtV.same (s : ∀ a o, a ∉ B → H a = some o → H' a = some o) {v w : V} : ∀ {q : PSt}, AtV B H v q w → AtV B H' v q w
  | .fld f, ⟨a, C, dx, fs, e, hb, h, l⟩ => ⟨a, C, dx, fs, e, hb, s a _ hb h, l⟩
  | .ix k, ⟨a, fs, e, hb, h, l⟩ => ⟨a, fs, e, hb, s a _ hb h, l⟩
  | .key k, ⟨a, fs, e, hb, h, l⟩ => ⟨a, fs, e, hb, s a _ hb h, l⟩
  | .keyT k, ⟨a, fs, e, hb, h, l⟩ => ⟨a, fs, e, hb, s a _ hb h, l⟩
theorem PathV.same (s : ∀ a o, a ∉ B → H a = some o → H' a = some o) : ∀ {p : List PSt} {v w : V}, PathV B H v p w → PathV B H' v p w
  | [], _, _, h => h
  | q :: p, _, _, ⟨x, h1, h2⟩ => ⟨x, h1.same s, PathV.same s h2⟩
theorem PathV.app : ∀ {p : List PSt} {v x w : V} {q : PSt}, PathV B H v p x → AtV B H x q w → PathV B H v (p ++ [q]) w
  | [], _, _, _, _, h, k => by
    have h : _ = _ := h
    subst h
    exact ⟨_, k, rfl⟩
  | s :: p, _, _, _, _, ⟨y, h1, h2⟩, k => ⟨y, h1, PathV.app h2 k⟩
theorem subP_app : ∀ {p : List PSt} {d : D} {q : PSt}, subP d (p ++ [q]) = (subP d p).bind fun e => subD e q
  | [], d, q => by
    show (subD d q).bind (fun e => some e) = subD d q
    cases subD d q <;> rfl
  | s :: p, d, q => by
    show (subD d s).bind (fun e => subP e (p ++ [q])) = ((subD d s).bind fun e => subP e p).bind fun e => subD e q
    cases subD d s with
    | none => rfl
    | some e => exact subP_app
/-- the item at a place -/
theorem OwnL.at_ {P : V → D → List Addr → Prop} : ∀ {vs : List V} {ds : List D} {fp : List Addr} {i : Nat} {e : D}, OwnL P vs ds fp → fp.Nodup → ds[i]? = some e →
    ∃ v f, vs[i]? = some v ∧ P v e f ∧ (∀ a ∈ f, a ∈ fp) ∧ f.Nodup ∧ ∀ (P' : V → D → List Addr → Prop) (e' : D) (g : List Addr), (∀ w d k, (∀ b ∈ k, b ∈ fp ∧ b ∉ f) → P w d k → P' w d k) → P' v e' g → (∀ b ∈ g, b ∈ f ∨ b ∉ fp) → g.Nodup →
      ∃ fp', OwnL P' vs (ds.set i e') fp' ∧ fp'.Nodup ∧ ∀ b ∈ fp', b ∈ fp ∨ b ∈ g
  | [], [], _, i, e, _, _, h => by simp at h
  | v :: vs, d :: ds, fp, 0, e, ⟨f1, f2, ef, h, t⟩, nd, q => by
    have q' : d = e := Option.some.inj q
    subst q'
    subst ef
    obtain ⟨n1, n2, n3⟩ := List.nodup_append.mp nd
    refine ⟨v, f1, rfl, h, fun a ha => List.mem_append_left _ ha, n1, fun P' e' g hP hg hs hn => ⟨g ++ f2, ⟨g, f2, rfl, hg, t.imp fun w d k hk => hP w d k fun b hb => ⟨List.mem_append_right _ (hk b hb), fun z => n3 b z b (hk b hb) rfl⟩⟩, List.nodup_append.mpr ⟨hn, n2, fun a ha b hb e => ?_⟩, fun b hb => ?_⟩⟩
    · subst e
      rcases hs a ha with z | z
      · exact n3 a z a hb rfl
      · exact z (List.mem_append_right _ hb)
    · rcases List.mem_append.mp hb with z | z
      · exact .inr z
      · exact .inl (List.mem_append_right _ z)
  | v :: vs, d :: ds, fp, i + 1, e, ⟨f1, f2, ef, h, t⟩, nd, q => by
    subst ef
    obtain ⟨n1, n2, n3⟩ := List.nodup_append.mp nd
    obtain ⟨w, f, e1, e2, e3, e4, k⟩ := OwnL.at_ (i := i) (e := e) t n2 q
    refine ⟨w, f, e1, e2, fun a ha => List.mem_append_right _ (e3 a ha), e4, fun P' e' g hP hg hs hn => ?_⟩
    obtain ⟨fp', o, nd', sub⟩ := k P' e' g (fun w d l hl => hP w d l fun b hb => ⟨List.mem_append_right _ (hl b hb).1, (hl b hb).2⟩) hg (fun b hb => (hs b hb).imp id fun z y => z (List.mem_append_right _ y)) hn
    refine ⟨f1 ++ fp', ⟨f1, fp', rfl, hP v d f1 (fun b hb => ⟨List.mem_append_left _ hb, fun z => n3 b hb b (e3 b z) rfl⟩) h, o⟩, List.nodup_append.mpr ⟨n1, nd', fun a ha b hb e => ?_⟩, fun b hb => ?_⟩
    · subst e
      rcases sub a hb with z | z
      · exact n3 a ha a z rfl
      · rcases hs a z with y | y
        · exact n3 a ha a (e3 a y) rfl
        · exact y (List.mem_append_left _ ha)
    · rcases List.mem_append.mp hb with z | z
      · exact .inl (List.mem_append_left _ z)
      · exact (sub b z).imp (fun y => List.mem_append_right _ y) id
theorem setE_at {κ : Type} {p : κ → Bool} {x : D} : ∀ {es : List (κ × D)} {i : Nat} {k : κ}, (es.map (·.1))[i]? = some k → p k = true → (∀ j k', j < i → (es.map (·.1))[j]? = some k' → p k' = false) → (setE p x es).map (·.2) = (es.map (·.2)).set i x ∧ (setE p x es).map (·.1) = es.map (·.1)
  | [], i, k, e, _, _ => by simp at e
  | q :: r, 0, k, e, hp, _ => by
    have e' : q.1 = k := Option.some.inj e
    subst e'
    unfold setE
    rw [if_pos hp]
    exact ⟨rfl, rfl⟩
  | q :: r, i + 1, k, e, hp, hn => by
    have h0 : p q.1 = false := hn 0 q.1 (Nat.succ_pos _) rfl
    obtain ⟨i1, i2⟩ := setE_at (x := x) (es := r) (i := i) (k := k) e hp fun j k' hj hk => hn (j + 1) k' (Nat.succ_lt_succ hj) hk
    unfold setE
    rw [if_neg (by rw [h0]; exact Bool.false_ne_true)]
    exact ⟨congrArg (List.cons q.2) i1, congrArg (List.cons q.1) i2⟩
theorem lookup_at {m : Str} {d : D} : ∀ {fs : List (Str × V)} {es : List (Str × D)}, fs.map (·.1) = es.map (·.1) → es.lookup m = some d → ∃ (i : Nat) (k : Str), (es.map (·.1))[i]? = some k ∧ (m == k) = true ∧ (es.map (·.2))[i]? = some d ∧ (∀ v, (fs.map (·.2))[i]? = some v → fs.lookup m = some v) ∧ ∀ j k', j < i → (es.map (·.1))[j]? = some k' → (m == k') = false
  | [], [], _, h => by cases h
  | p :: r, q :: s, hk, h => by
    rw [List.map_cons, List.map_cons] at hk
    injection hk with h1 h2
    obtain ⟨pk, pv⟩ := p
    obtain ⟨qk, qv⟩ := q
    dsimp only at h1
    subst h1
    rw [List.lookup_cons] at h
    cases hb : m == pk with
    | true =>
      rw [hb] at h
      exact ⟨0, pk, rfl, hb, by simpa using h, fun v e => by rw [List.lookup_cons, hb]; simpa using e, fun j k' hj => absurd hj (Nat.not_lt_zero _)⟩
    | false =>
      rw [hb] at h
      obtain ⟨i, k, e1, e2, e3, e4, e5⟩ := lookup_at h2 h
      refine ⟨i + 1, k, by simpa using e1, e2, by simpa using e3, fun v e => by rw [List.lookup_cons, hb]; exact e4 v (by simpa using e), fun j k' hj e => ?_⟩
      cases j with
      | zero =>
        have e' : pk = k' := by simpa using e
        rw [← e']; exact hb
      | succ j => exact e5 j k' (Nat.lt_of_succ_lt_succ hj) (by simpa using e)
  | [], _ :: _, h, _ => by cases h
  | _ :: _, [], h, _ => by cases h
theorem get_at {κ : Type} [DecidableEq κ] {m : κ} {d : D} : ∀ {fs : List (κ × V)} {es : List (κ × D)}, fs.map (·.1) = es.map (·.1) → getD' es m = some d → ∃ (i : Nat) (k : κ), (es.map (·.1))[i]? = some k ∧ decide (k = m) = true ∧ (es.map (·.2))[i]? = some d ∧ (∀ v, (fs.map (·.2))[i]? = some v → valV fs m = some v) ∧ ∀ j k', j < i → (es.map (·.1))[j]? = some k' → decide (k' = m) = false
  | [], [], _, h => by cases h
  | p :: r, q :: s, hk, h => by
    rw [List.map_cons, List.map_cons] at hk
    injection hk with h1 h2
    by_cases c : q.1 = m
    · have hd : q.2 = d := by
        have : getD' (q :: s) m = some q.2 := by simp [getD', List.find?_cons, c]
        rw [this] at h; exact Option.some.inj h
      refine ⟨0, q.1, rfl, decide_eq_true c, by rw [← hd]; rfl, fun v e => ?_, fun j k' hj => absurd hj (Nat.not_lt_zero _)⟩
      have e' : p.2 = v := by simpa using e
      rw [← e']; exact valV_pos (h1.trans c)
    · have g : getD' (q :: s) m = getD' s m := by simp [getD', List.find?_cons, c]
      rw [g] at h
      obtain ⟨i, k, e1, e2, e3, e4, e5⟩ := get_at h2 h
      refine ⟨i + 1, k, by simpa using e1, e2, by simpa using e3, fun v e => by rw [valV_neg (fun z => c (h1.symm.trans z))]; exact e4 v (by simpa using e), fun j k' hj e => ?_⟩
      cases j with
      | zero =>
        have e' : q.1 = k' := by simpa using e
        rw [← e']; exact decide_eq_false c
      | succ j => exact e5 j k' (Nat.lt_of_succ_lt_succ hj) (by simpa using e)
  | [], _ :: _, h, _ => by cases h
  | _ :: _, [], h, _ => by cases h
/-- one step down -/
theorem Own.sub {v : V} {d e : D} {s : PSt} (o : Own K F H (n + 1) v d fp) (nd : fp.Nodup) (hB : ∀ a ∈ fp, a ∉ B) (h : subD d s = some e) :
    ∃ v' f', AtV B H v s v' ∧ Own K F H n v' e f' ∧ (∀ a ∈ f', a ∈ fp) ∧ f'.Nodup ∧ ∀ (H' : Hp) (e' : D) (g : List Addr), (∀ b ∈ fp, b ∉ f' → ∀ o, H b = some o → H' b = some o) → Own K F H' n v' e' g → (∀ b ∈ g, b ∈ f' ∨ b ∉ fp) → g.Nodup →
      ∃ fp', Own K F H' (n + 1) v (setD d s e') fp' ∧ fp'.Nodup ∧ ∀ b ∈ fp', b ∈ fp ∨ b ∈ g := by
  have fin : ∀ {a : Addr} {f f' g : List Addr} {vs : List V} {ds ds' : List D} {H' : Hp}, (a :: f).Nodup → (∀ b ∈ g, b ∈ f' ∨ b ∉ (a :: f)) → (∀ b ∈ f', b ∈ f) → (∀ b ∈ g, b ≠ a) := fun {a f f' g vs ds ds' H'} nd hs hf b hb z => by
    subst z
    rcases hs b hb with y | y
    · exact (List.nodup_cons.mp nd).1 (hf b y)
    · exact y List.mem_cons_self
  cases d <;> cases s <;> try (cases h; done)
  · -- list
    rename_i ds k
    obtain ⟨a, vs, f, rfl, h1, rfl, t⟩ := o
    obtain ⟨n1, n2⟩ := List.nodup_cons.mp nd
    obtain ⟨w, f', e1, e2, e3, e4, kk⟩ := t.at_ n2 h
    refine ⟨w, f', ⟨a, vs, rfl, hB a List.mem_cons_self, h1, e1⟩, e2, fun b hb => List.mem_cons_of_mem _ (e3 b hb), e4, fun H' e' g hH ho hs hn => ?_⟩
    have hga := fin (vs := []) (ds := []) (ds' := []) (H' := H') nd hs e3
    obtain ⟨fp', o', nd', sub⟩ := kk (Own K F H' n) e' g (fun w d l hl q => Own.mono (fun _ _ h => h) (fun b hb o e => hH b (List.mem_cons_of_mem _ (hl b hb).1) (hl b hb).2 o e) q) ho (fun b hb => (hs b hb).imp id fun z y => z (List.mem_cons_of_mem _ y)) hn
    refine ⟨a :: fp', ⟨a, vs, fp', rfl, hH a List.mem_cons_self (fun z => n1 (e3 a z)) _ h1, rfl, o'⟩, List.nodup_cons.mpr ⟨fun z => (sub a z).elim n1 fun y => hga a y rfl, nd'⟩, fun b hb => ?_⟩
    rcases List.mem_cons.mp hb with z | z
    · exact .inl (by rw [z]; exact List.mem_cons_self)
    · exact (sub b z).imp (fun y => List.mem_cons_of_mem _ y) id
  · -- dict
    rename_i es k
    obtain ⟨a, kvs, f, rfl, h1, rfl, hk, t⟩ := o
    obtain ⟨n1, n2⟩ := List.nodup_cons.mp nd
    obtain ⟨i, kk0, g1, g2, g3, g4, g5⟩ := get_at hk h
    obtain ⟨w, f', e1, e2, e3, e4, kk⟩ := t.at_ n2 g3
    refine ⟨w, f', ⟨a, kvs, rfl, hB a List.mem_cons_self, h1, g4 w e1⟩, e2, fun b hb => List.mem_cons_of_mem _ (e3 b hb), e4, fun H' e' g hH ho hs hn => ?_⟩
    have hga := fin (vs := []) (ds := []) (ds' := []) (H' := H') nd hs e3
    obtain ⟨fp', o', nd', sub⟩ := kk (Own K F H' n) e' g (fun w d l hl q => Own.mono (fun _ _ h => h) (fun b hb o e => hH b (List.mem_cons_of_mem _ (hl b hb).1) (hl b hb).2 o e) q) ho (fun b hb => (hs b hb).imp id fun z y => z (List.mem_cons_of_mem _ y)) hn
    obtain ⟨s1, s2⟩ := setE_at (p := fun g => decide (g = k)) (x := e') g1 g2 g5
    refine ⟨a :: fp', ⟨a, kvs, fp', rfl, hH a List.mem_cons_self (fun z => n1 (e3 a z)) _ h1, rfl, by rw [s2]; exact hk, by rw [s1]; exact o'⟩, List.nodup_cons.mpr ⟨fun z => (sub a z).elim n1 fun y => hga a y rfl, nd'⟩, fun b hb => ?_⟩
    rcases List.mem_cons.mp hb with z | z
    · exact .inl (by rw [z]; exact List.mem_cons_self)
    · exact (sub b z).imp (fun y => List.mem_cons_of_mem _ y) id
  · rename_i es k
    obtain ⟨a, kvs, f, rfl, h1, rfl, hk, t⟩ := o
    obtain ⟨n1, n2⟩ := List.nodup_cons.mp nd
    obtain ⟨i, kk0, g1, g2, g3, g4, g5⟩ := get_at hk h
    obtain ⟨w, f', e1, e2, e3, e4, kk⟩ := t.at_ n2 g3
    refine ⟨w, f', ⟨a, kvs, rfl, hB a List.mem_cons_self, h1, g4 w e1⟩, e2, fun b hb => List.mem_cons_of_mem _ (e3 b hb), e4, fun H' e' g hH ho hs hn => ?_⟩
    have hga := fin (vs := []) (ds := []) (ds' := []) (H' := H') nd hs e3
    obtain ⟨fp', o', nd', sub⟩ := kk (Own K F H' n) e' g (fun w d l hl q => Own.mono (fun _ _ h => h) (fun b hb o e => hH b (List.mem_cons_of_mem _ (hl b hb).1) (hl b hb).2 o e) q) ho (fun b hb => (hs b hb).imp id fun z y => z (List.mem_cons_of_mem _ y)) hn
    obtain ⟨s1, s2⟩ := setE_at (p := fun g => decide (g = k)) (x := e') g1 g2 g5
    refine ⟨a :: fp', ⟨a, kvs, fp', rfl, hH a List.mem_cons_self (fun z => n1 (e3 a z)) _ h1, rfl, by rw [s2]; exact hk, by rw [s1]; exact o'⟩, List.nodup_cons.mpr ⟨fun z => (sub a z).elim n1 fun y => hga a y rfl, nd'⟩, fun b hb => ?_⟩
    rcases List.mem_cons.mp hb with z | z
    · exact .inl (by rw [z]; exact List.mem_cons_self)
    · exact (sub b z).imp (fun y => List.mem_cons_of_mem _ y) id
  · rename_i C es k
    obtain ⟨a, dx, kvs, f, rfl, h1, rfl, hk, t⟩ := o
    obtain ⟨n1, n2⟩ := List.nodup_cons.mp nd
    obtain ⟨i, kk0, g1, g2, g3, g4, g5⟩ := lookup_at hk h
    obtain ⟨w, f', e1, e2, e3, e4, kk⟩ := t.at_ n2 g3
    refine ⟨w, f', ⟨a, C, dx, kvs, rfl, hB a List.mem_cons_self, h1, g4 w e1⟩, e2, fun b hb => List.mem_cons_of_mem _ (e3 b hb), e4, fun H' e' g hH ho hs hn => ?_⟩
    have hga := fin (vs := []) (ds := []) (ds' := []) (H' := H') nd hs e3
    obtain ⟨fp', o', nd', sub⟩ := kk (Own K F H' n) e' g (fun w d l hl q => Own.mono (fun _ _ h => h) (fun b hb o e => hH b (List.mem_cons_of_mem _ (hl b hb).1) (hl b hb).2 o e) q) ho (fun b hb => (hs b hb).imp id fun z y => z (List.mem_cons_of_mem _ y)) hn
    obtain ⟨s1, s2⟩ := setE_at (p := fun g => k == g) (x := e') g1 g2 g5
    refine ⟨a :: fp', ⟨a, dx, kvs, fp', rfl, hH a List.mem_cons_self (fun z => n1 (e3 a z)) _ h1, rfl, by rw [s2]; exact hk, by rw [s1]; exact o'⟩, List.nodup_cons.mpr ⟨fun z => (sub a z).elim n1 fun y => hga a y rfl, nd'⟩, fun b hb => ?_⟩
    rcases List.mem_cons.mp hb with z | z
    · exact .inl (by rw [z]; exact List.mem_cons_self)
    · exact (sub b z).imp (fun y => List.mem_cons_of_mem _ y) id
theorem Own.path : ∀ {p : List PSt} {v : V} {d e : D} {fp : List Addr}, Own K F H (n + p.length) v d fp → fp.Nodup → (∀ a ∈ fp, a ∉ B) → subP d p = some e →
    ∃ v' f', PathV B H v p v' ∧ Own K F H n v' e f' ∧ (∀ a ∈ f', a ∈ fp) ∧ f'.Nodup ∧ ∀ (H' : Hp) (e' : D) (g : List Addr), (∀ b ∈ fp, b ∉ f' → ∀ o, H b = some o → H' b = some o) → Own K F H' n v' e' g → (∀ b ∈ g, b ∈ f' ∨ b ∉ fp) → g.Nodup →
      ∃ fp', Own K F H' (n + p.length) v (setP d p e') fp' ∧ fp'.Nodup ∧ ∀ b ∈ fp', b ∈ fp ∨ b ∈ g
  | [], v, d, e, fp, o, nd, hB, h => by
    cases h
    exact ⟨v, fp, rfl, o, fun _ h => h, nd, fun H' e' g _ ho _ hn => ⟨g, ho, hn, fun b hb => .inr hb⟩⟩
  | s :: p, v, d, e, fp, o, nd, hB, h => by
    have o : Own K F H (n + p.length + 1) v d fp := o
    have h : (subD d s).bind (fun e => subP e p) = some e := h
    cases q : subD d s with
    | none => rw [q] at h; cases h
    | some x =>
      rw [q] at h
      obtain ⟨v1, f1, a1, o1, s1, n1, k1⟩ := o.sub nd hB q
      obtain ⟨v2, f2, a2, o2, s2, n2, k2⟩ := Own.path (p := p) o1 n1 (fun a ha => hB a (s1 a ha)) h
      refine ⟨v2, f2, ⟨v1, a1, a2⟩, o2, fun a ha => s1 a (s2 a ha), n2, fun H' e' g hH ho hs hn => ?_⟩
      obtain ⟨g1, o', nd', sub⟩ := k2 H' e' g (fun b hb hb' => hH b (s1 b hb) hb') ho (fun b hb => (hs b hb).imp id fun z y => z (s1 b y)) hn
      obtain ⟨g2, o3, nd3, sub3⟩ := k1 H' (setP x p e') g1 (fun b hb hb' => hH b hb fun z => hb' (s2 b z)) o' (fun b hb => by
        rcases sub b hb with z | z
        · exact .inl z
        · exact (hs b z).imp (s2 b) id) nd'
      refine ⟨g2, ?_, nd3, fun b hb => ?_⟩
      · show Own K F H' (n + p.length + 1) v (match subD d s with
          | some e => setD d s (setP e p e')
          | none => d) g2
        rw [q]
        exact o3
      · rcases sub3 b hb with z | z
        · exact .inl z
        · exact (sub b z).imp (s1 b) id
end
section
variable {K : PySem.W.Frag} {B fp : List Addr} {Pn : List V} {Z0 F0 F H : Hp} {σ : L2.St} {ρ : Env} {n i : Nat}
theorem StOk.path {d e : D} {p : List PSt} {P : Addr → HO → List Addr → Prop} (S : StOk K B Pn Z0 F0 F H σ ρ fp) (es : slot ρ i = some (n + 1 + p.length, d)) (hs : subP d p = some e)
    (hd : ∀ v f, Own K F H (n + 1) v e f → ∃ a g o, v = .ref a ∧ f = a :: g ∧ H a = some o ∧ P a o g) :
    ∃ v0 a g o, σ[i]? = some (some v0) ∧ PathV B H v0 p (.ref a) ∧ H a = some o ∧ P a o g ∧ a ∉ g ∧ g.Nodup ∧ (∀ b ∈ a :: g, b ∈ fp) ∧ ∀ o' e' g' fc, erO o' = o' → Apart B Z0 F fp fc → (∀ b ∈ g', b ∈ g ∨ b ∈ fc) → g'.Nodup →
      Own K F (upd H a o') (n + 1) (.ref a) e' (a :: g') → ∃ fp', StOk K B Pn Z0 F0 F (upd H a o') σ (ρ.set i (some (n + 1 + p.length, setP d p e'))) fp' := by
  obtain ⟨v, f, fp1, e1, e2, S1, ap1, sub⟩ := S.take es
  obtain ⟨v', f', pv, ow, s2, nd2, k⟩ := Own.path (B := B) e2 ap1.2 (fun a ha => (ap1.1 a ha).2.1) hs
  obtain ⟨a, g, o, rfl, rfl, ha, hP⟩ := hd v' f' ow
  obtain ⟨hag, hg⟩ := List.nodup_cons.mp nd2
  have haf : a ∈ f := s2 a List.mem_cons_self
  refine ⟨v, a, g, o, e1, pv, ha, hP, hag, hg, fun b hb => sub b (List.mem_append_right _ (s2 b hb)), fun o' e' g' fc ho ap hsub hn' ho' => ?_⟩
  obtain ⟨h1, h2, h3, h4⟩ := ap1.1 a haf
  have S2 := S1.mut h4 h1 h2 h3 ho
  have hi : i < (ρ.set i none).length := by rw [List.length_set]; exact slot_lt es
  have hac : a ∉ fc := fun z => (ap.1 a z).2.2.2 (sub a (List.mem_append_right _ haf))
  obtain ⟨fp', o3, nd3, sub3⟩ := k (upd H a o') e' (a :: g') (fun b hb hb' u eu => by rw [upd_ne (fun z => hb' (by rw [z]; exact List.mem_cons_self))]; exact eu) ho' (fun b hb => by
    rcases List.mem_cons.mp hb with z | z
    · exact .inl (by rw [z]; exact List.mem_cons_self)
    · rcases hsub b z with y | y
      · exact .inl (List.mem_cons_of_mem _ y)
      · exact .inr fun w => (ap.1 b y).2.2.2 (sub b (List.mem_append_right _ w))) (List.nodup_cons.mpr ⟨fun z => (hsub a z).elim hag hac, hn'⟩)
  have ap' : Apart B Z0 F fp1 fp' := by
    refine ⟨fun b hb => ?_, nd3⟩
    rcases sub3 b hb with q | q
    · exact ap1.1 b q
    · rcases List.mem_cons.mp q with z | z
      · rw [z]; exact ⟨h1, h2, h3, h4⟩
      · rcases hsub b z with q | q
        · exact ap1.1 b (s2 b (List.mem_cons_of_mem _ q))
        · obtain ⟨k1, k2, k3, k4⟩ := ap.1 b q
          exact ⟨k1, k2, k3, fun r => k4 (sub b (List.mem_append_left _ r))⟩
  obtain ⟨fp2, S3⟩ := S2.put (i := i) o3 ap' hi e1
  rw [List.set_set] at S3
  exact ⟨fp2, S3⟩
end
end GK

namespace GK
open PySem PySem.Spec PyProof.Rows L2

/-! ### an expression that names a place -/
abbrev FP := Env → (List PSt → Prop) → Prop
def tP (K : PySem.W.Frag) (B : List Addr) (i : Nat) (g : FP) : TE := fun σ H Q => ∃ F ρ fp R, StOk K B [] noH noH F H σ ρ fp ∧ g ρ R ∧
  ∀ F' H' p v v0, Step B [] F H F' H' → σ[i]? = some (some v0) → PathV B H' v0 p v → R p → Q v H'
abbrev DP (X : Cx) (B : List Addr) (e : Expr) (i : Nat) (g : FP) : Prop := PE X e (tP X.K B i g)
/-- what stands at a place -/
def atP (ρ : Env) (i : Nat) (p : List PSt) (k : Nat → D → D → Prop) : Prop := match slot ρ i with
  | some (m, d) => ∃ n e, m = n + 1 + p.length ∧ subP d p = some e ∧ k n d e
  | none => False
theorem atP.inv {ρ : Env} {i : Nat} {p : List PSt} {k : Nat → D → D → Prop} (h : atP ρ i p k) : ∃ n d e, slot ρ i = some (n + 1 + p.length, d) ∧ subP d p = some e ∧ k n d e := by
  unfold atP at h
  split at h
  · rename_i m d q
    obtain ⟨n, e, rfl, h1, h2⟩ := h
    exact ⟨n, d, e, q, h1, h2⟩
  · exact h.elim
section
variable {K : PySem.W.Frag} {B fp : List Addr} {Pn : List V} {Z0 F0 F H : Hp} {σ : L2.St} {ρ : Env} {n i : Nat}
/-- what is new is apart -/
theorem StOk.apart {F' : Hp} {fx : List Addr} (S : StOk K B Pn Z0 F0 F H σ ρ fp) (ox : ∀ a ∈ fx, (a ∈ ([] : List Addr) ∨ H a = none) ∧ F' a = none ∧ a ∉ B) (nx : fx.Nodup) : Apart B Z0 F' fp fx := by
  refine ⟨fun b hb => ?_, nx⟩
  obtain ⟨h1, h2, h3⟩ := ox b hb
  have hz : H b = none := h1.elim (fun z => by cases z) id
  refine ⟨h2, h3, ?_, fun hm => ?_⟩
  · cases q : Z0 b with
    | none => rfl
    | some u => rw [S.z b u q] at hz; cases hz
  · obtain ⟨u, eu, _⟩ := S.own.there b hm
    rw [hz] at eu; cases eu
/-- a value that a place names -/
theorem StOk.seen {d e : D} {p : List PSt} {v0 v : V} (S : StOk K B Pn Z0 F0 F H σ ρ fp) (es : slot ρ i = some (n + p.length, d)) (hv : σ[i]? = some (some v0)) (hs : subP d p = some e) (hp : PathV B H v0 p v) :
    ∃ f, Own K F H n v e f ∧ f.Nodup ∧ ∀ a ∈ f, a ∉ B := by
  obtain ⟨v1, f, fp1, e1, e2, S1, ap1, sub⟩ := S.take es
  rw [hv] at e1
  cases e1
  obtain ⟨v', f', pv, ow, s2, nd2, k⟩ := Own.path (B := B) e2 ap1.2 (fun a ha => (ap1.1 a ha).2.1) hs
  cases hp.det pv
  exact ⟨f', ow, nd2, fun a ha => (ap1.1 a (s2 a ha)).2.1⟩
end
section
variable {X : Cx} {e e2 : Expr} {i : Nat} {g : FP} {fe : FE} {pos p : Pos} {x : Str} {m2 : Mode}
theorem dp_var (i : Nat) (hN : NameOk X i x := by exact ⟨rfl, by first | exact Or.inl rfl | exact Or.inr (Or.inl rfl) | exact Or.inr (Or.inr rfl), by decide, by decide⟩) : DP X B (.Name x pos) i (fun ρ R => (slot ρ i).isSome = true ∧ R []) :=
  PE.imp (pe_var hN.1 hN.2 hN.3 hN.4) fun σ H Q ⟨F, ρ, fp, R, S, ⟨h0, hg⟩, k⟩ => by
    cases q : slot ρ i with
    | none => rw [q] at h0; cases h0
    | some z =>
      obtain ⟨v, f, e1, _⟩ := S.own.slot q
      exact ⟨v, e1, k F H [] v v (Step.refl S.wf) e1 rfl hg⟩
/-- .f -/
theorem dp_fld {C : Addr} {f : Str} (he : DP X B e i g) (c : Cls X.K C) (nf : NoAttr X.K C f) (hb : attributeBase e f X.env (eval e X.env) = eval e X.env := by rfl) :
    DP X B (.Attribute e f pos) i (fun ρ R => g ρ fun p => atP ρ i p fun _ _ x => (∃ es y, x = .obj C es ∧ es.lookup f = some y) ∧ R (p ++ [.fld f])) :=
  PE.imp (pe_fld he hb) fun σ H Q ⟨F, ρ, fp, R, S, hg, k⟩ => by
    refine ⟨F, ρ, fp, _, S, hg, fun F' H' p v v0 s hv hp hR => ?_⟩
    obtain ⟨n', d', x, es', hsub, ⟨ys, y, rfl, hl⟩, hR⟩ := hR.inv
    have S' := S.step s fun a h => (by cases h)
    obtain ⟨f1, ow, nd, hB⟩ := S'.seen es' hv hsub hp
    obtain ⟨w, f2, ⟨a, C', dx, fs, rfl, hb', ha, l⟩, _⟩ := ow.sub (s := .fld f) nd hB hl
    obtain ⟨a', dx', fs', g', e1, e2, e3, e4, _⟩ := ow
    cases e1
    rw [ha] at e2
    cases e2
    exact ⟨a, C, dx, fs, w, rfl, ha, c, nf, l, k F' H' (p ++ [.fld f]) w v0 s hv (hp.app (q := .fld f) ⟨a, C, dx, fs, rfl, hb', ha, l⟩) hR⟩
/-- [j] of a list -/
theorem dp_ix (he : DP X B e i g) (hj : DE X B e2 (.own 0) fe) (hs : PlainIx e2 := by exact fun _ _ => rfl) :
    DP X B (.Subscript e e2 pos) i (fun ρ R => g ρ fun p => fe ρ fun j => atP ρ i p fun _ _ x => ∃ ds j' k, x = .lst ds ∧ j = .int j' ∧ ixN ds.length j' = some k ∧ R (p ++ [.ix k])) :=
  PE.imp (pe_ix ix_seq he hj hs) fun σ H Q ⟨F, ρ, fp, R, S, hg, k⟩ => by
    refine ⟨F, ρ, fp, _, S, hg, fun F1 H1 p v v0 s1 hv hp hf => ⟨F1, ρ, fp, _, S.step s1 (fun a h => by cases h), hf, fun F2 H2 w j fj s2 hw oj nj hR => ?_⟩⟩
    obtain ⟨n', d', x, es', hsub, ⟨ds, j', kx, rfl, rfl, hk, hR⟩⟩ := hR.inv
    have S2 := (S.step s1 (fun a h => by cases h)).step s2 fun a h => (by cases h)
    have hp2 := hp.same s2.same
    obtain ⟨f1, ow, nd, hB⟩ := S2.seen es' hv hsub hp2
    obtain ⟨rfl, _⟩ := hw.int
    obtain ⟨a, vs, g', rfl, h1, rfl, t⟩ := ow
    have hlt : kx < ds.length := by
      unfold ixN at hk
      split at hk
      · split at hk
        · cases hk; omega
        · cases hk
      · split at hk
        · cases hk; omega
        · cases hk
    have hl := t.len
    obtain ⟨y, hv'⟩ : ∃ y, vs[kx]? = some y := ⟨_, List.getElem?_eq_getElem (by omega)⟩
    exact .inl ⟨a, vs, j', y, rfl, rfl, SqL.of h1, by unfold atI; rw [hl, hk]; exact hv', k F2 H2 (p ++ [.ix kx]) _ v0 (s1.trans s2 fun a h => (by cases h)) hv (hp2.app (q := .ix kx) ⟨a, vs, rfl, hB a List.mem_cons_self, h1, hv'⟩) hR⟩
/-- [k] of a dict -/
theorem dp_key (hu : X.A.units + 1 < cLine) (he : DP X B e i g) (hj : DE X B e2 (.own 0) fe) (hs : NoSl e2 := by exact fun _ _ => rfl) :
    DP X B (.Subscript e e2 pos) i (fun ρ R => g ρ fun p => fe ρ fun j => atP ρ i p fun _ _ x => (∃ es k y, x = .dK es ∧ keyOf j = some k ∧ getD' es k = some y ∧ R (p ++ [.key k])) ∨ ∃ es k y, x = .dT es ∧ keyT j = some k ∧ getD' es k = some y ∧ R (p ++ [.keyT k])) :=
  PE.imp (pe_dget hu he hj hs) fun σ H Q ⟨F, ρ, fp, R, S, hg, k⟩ => by
    refine ⟨F, ρ, fp, _, S, hg, fun F1 H1 p v v0 s1 hv hp hf => ⟨F1, ρ, fp, _, S.step s1 (fun a h => by cases h), hf, fun F2 H2 w j fj s2 hw oj nj hR => ?_⟩⟩
    obtain ⟨n', d', x, es', hsub, hR⟩ := hR.inv
    have S2 := (S.step s1 (fun a h => by cases h)).step s2 fun a h => (by cases h)
    have hp2 := hp.same s2.same
    obtain ⟨f1, ow, nd, hB⟩ := S2.seen es' hv hsub hp2
    rcases hR with ⟨ys, kk, y, rfl, ek, eg, hq⟩ | ⟨ys, kk, y, rfl, ek, eg, hq⟩
    · obtain ⟨w', f2, ⟨a, kvs, rfl, hb', ha, l⟩, _⟩ := ow.sub (s := .key kk) nd hB eg
      have ew := keyOf_R ek hw.1
      subst ew
      exact ⟨a, w', rfl, .inl ⟨kvs, kk, .inl ha, rfl, l.symm⟩, k F2 H2 (p ++ [.key kk]) _ v0 (s1.trans s2 fun a h => (by cases h)) hv (hp2.app (q := .key kk) ⟨a, kvs, rfl, hb', ha, l⟩) hq⟩
    · obtain ⟨w', f2, ⟨a, kvs, rfl, hb', ha, l⟩, _⟩ := ow.sub (s := .keyT kk) nd hB eg
      cases j <;> try (cases ek; done)
      obtain ⟨ta, ws, rfl, ht, hrl⟩ := hw.1.tupI
      have ew := keysOf_R ek hrl
      subst ew
      exact ⟨a, w', rfl, .inr ⟨kvs, kk, ta, .inl ha, rfl, tup_of S2.wf (S2.wf.sub _ _ ht), l.symm⟩, k F2 H2 (p ++ [.keyT kk]) _ v0 (s1.trans s2 fun a h => (by cases h)) hv (hp2.app (q := .keyT kk) ⟨a, kvs, rfl, hb', ha, l⟩) hq⟩
end
/-! what is done at a place -/
def atLst (ρ : Env) (i n : Nat) (p : List PSt) (k : D → List D → Prop) : Prop := atP ρ i p fun n' d e => n' = n ∧ match e with
  | .lst ds => k d ds
  | _ => False
theorem atLst.inv {ρ : Env} {i n : Nat} {p : List PSt} {k : D → List D → Prop} (h : atLst ρ i n p k) : ∃ d ds, slot ρ i = some (n + 1 + p.length, d) ∧ subP d p = some (.lst ds) ∧ k d ds := by
  obtain ⟨n', d, e, h1, h2, rfl, h3⟩ := atP.inv h
  cases e <;> try exact h3.elim
  exact ⟨d, _, h1, h2, h3⟩
def atDK (ρ : Env) (i n : Nat) (p : List PSt) (k : D → List (Key × D) → Prop) : Prop := atP ρ i p fun n' d e => n' = n ∧ match e with
  | .dK ds => k d ds
  | _ => False
theorem atDK.inv {ρ : Env} {i n : Nat} {p : List PSt} {k : D → List (Key × D) → Prop} (h : atDK ρ i n p k) : ∃ d ds, slot ρ i = some (n + 1 + p.length, d) ∧ subP d p = some (.dK ds) ∧ k d ds := by
  obtain ⟨n', d, e, h1, h2, rfl, h3⟩ := atP.inv h
  cases e <;> try exact h3.elim
  exact ⟨d, _, h1, h2, h3⟩
def atDT (ρ : Env) (i n : Nat) (p : List PSt) (k : D → List (List Key × D) → Prop) : Prop := atP ρ i p fun n' d e => n' = n ∧ match e with
  | .dT ds => k d ds
  | _ => False
theorem atDT.inv {ρ : Env} {i n : Nat} {p : List PSt} {k : D → List (List Key × D) → Prop} (h : atDT ρ i n p k) : ∃ d ds, slot ρ i = some (n + 1 + p.length, d) ∧ subP d p = some (.dT ds) ∧ k d ds := by
  obtain ⟨n', d, e, h1, h2, rfl, h3⟩ := atP.inv h
  cases e <;> try exact h3.elim
  exact ⟨d, _, h1, h2, h3⟩
section
variable {X : Cx} {e e2 o : Expr} {pin n i : Nat} {m mr : Mode} {f : FM} {fe fv : FE} {g : FP} {pos p apos cpos : Pos}
/-- P.append(e) -/
theorem dm_appendP (n : Nat) (ho : DP X B o i g) (he : DE X B e (.own n) fe) (hb : BmOk X o "append" apos e [] cpos := by exact ⟨rfl, rfl, rfl, rfl, rfl⟩) :
    DM X B (.Call (.Attribute o "append" apos) [e] [] cpos) pin m (fun ρ R => g ρ fun p => (atLst ρ i n p fun _ _ => True) ∧ fe ρ fun x => atLst ρ i n p fun d ds => ds.length < sizeLine ∧ R .non (ρ.set i (some (n + 1 + p.length, setP d p (.lst (ds ++ [x])))))) :=
  PE.imp (pe_bm PySem.F.plainAttrs_list PySem.F.slot_list_append PySem.F.type_list_append mt_append ho (pa_cons he pa_nil hb.4) hb.1 hb.2 hb.3 hb.4 hb.5) fun σ H Q ⟨Pn, Z0, F0, F, ρ, fp, R, hpl, S, hg, k⟩ => by
    refine ⟨F, ρ, fp, _, S.base, hg, fun F1 H1 p v v0 s1 hv0 hp ⟨h0, hf⟩ => ?_⟩
    have S1 := S.step s1 fun a h => (by cases h)
    obtain ⟨d, ds, es, hs, _⟩ := h0.inv
    obtain ⟨v1, a, gg, o', hv1, pv, ha, ⟨vs, rfl, _⟩, _⟩ := S1.path es hs own_lst
    rw [hv0] at hv1
    cases hv1
    cases hp.det pv
    refine ⟨.inl ⟨rfl, _, SqL.of ha⟩, F1, ρ, fp, _, S1.base, hf, fun F2 H2 w x fx s2 hw ox nx hx => ?_⟩
    have S2 := S1.step s2 fun a h => (by cases h)
    obtain ⟨d', ds', es', hs', hz, hR⟩ := hx.inv
    obtain ⟨v2, a2, g2, o2, hv2, pv2, ha2, ⟨vs2, rfl, t2⟩, hag, hgn, hin, kk⟩ := S2.path es' hs' own_lst
    rw [hv0] at hv2
    cases hv2
    cases (hp.same s2.same).det pv2
    have ap : Apart B Z0 F2 fp fx := S1.apart ox nx
    have hax : a ∉ fx := fun z => (ap.1 a z).2.2.2 (hin a List.mem_cons_self)
    obtain ⟨fp3, S3⟩ := kk (.lst (vs2 ++ [w])) (.lst (ds' ++ [x])) (g2 ++ fx) fx rfl ap (fun b hb => List.mem_append.mp hb) (nd_of hgn nx fun b hb z => (ap.1 b hb).2.2.2 (hin b (List.mem_cons_of_mem _ z)))
      ⟨a, vs2 ++ [w], g2 ++ fx, rfl, upd_same, rfl, (t2.upd hag).append (OwnL.one (Own.upd (show Own X.K F2 H2 n w x fx from hw) hax))⟩
    exact ⟨a, vs2, w, rfl, rfl, ha2, by rw [t2.len]; exact hz, k F2 _ _ fp3 .non .non [] S3 (Val.atom rfl fun _ => .non) .nil hR⟩
end
end GK

namespace GK
open PySem PySem.Spec PyProof.Rows L2

section
variable {X : Cx} {e e2 o : Expr} {pin n i : Nat} {m mr : Mode} {f : FM} {fe fv : FE} {g : FP} {pos p apos cpos : Pos}
/-- P[j] = e, P a list -/
theorem ds_setPL (n : Nat) (he : DM X B e pin (.own n) f) (ho : DP X B o i g) (hj : DE X B e2 (.own 0) fe)
    (ha : ∀ v, assign (.Subscript o e2 apos) X.env v = (do
      let ov ← holding [v] (eval o X.env)
      let iv ← holding [v, ov] (eval e2 X.env)
      standAt apos
      holding [v, ov, iv] (setItem ov iv v)
      release [v, ov, iv] []) := by intro _; rfl)
    (hs : swapsWithSole [.Subscript o e2 apos] e pos.line X.env = pure false := by rfl) (hw : swappedStores [.Subscript o e2 apos] e X.env = pure none := by rfl)
    (h1 : (assignEach [.Subscript o e2 apos] X.env).map (·.2) = [assign (.Subscript o e2 apos) X.env] := by rfl) :
    DS X B (.Assign [.Subscript o e2 apos] e pos) pin mr (fun E ρ => f ρ fun x ρ' => g ρ' fun p => fe ρ' fun j => atLst ρ' i n p fun d ds => ∃ j' k, j = .int j' ∧ ixN ds.length j' = some k ∧ E.nx (ρ'.set i (some (n + 1 + p.length, setP d p (.lst (ds.set k x)))))) :=
  PS.imp (ps_asg he (pg_sub ho hj set_list ha) hs hw h1) fun Dn σ H ⟨Pn, Z0, F0, F, ρ, fp, E, hpl, S, hf, L⟩ => by
    refine ⟨Pn, Z0, F0, F, ρ, fp, _, hpl, S, hf, fun F' H' ρ' fp' v x f' S' hv ap hg => ?_⟩
    refine ⟨F', ρ', fp', _, S'.base, hg, fun F1 H1 p w v0 s1 hv0 hp hf => ?_⟩
    have S1 := S'.step s1 fun a h => (by cases h)
    refine ⟨F1, ρ', fp', _, S1.base, hf, fun F2 H2 y j fj s2 hw oj nj hR => ?_⟩
    have S2 := S1.step s2 fun a h => (by cases h)
    obtain ⟨d, ds, es, hs, j', kx, rfl, hk, hR⟩ := hR.inv
    obtain ⟨rfl, _⟩ := hw.int
    obtain ⟨v2, a, g2, o2, hv2, pv2, ha2, ⟨vs, rfl, t⟩, hag, hgn, hin, kk⟩ := S2.path es hs own_lst
    rw [hv0] at hv2
    cases hv2
    cases (hp.same s2.same).det pv2
    have s12 := s1.trans s2 fun a h => (by cases h)
    have ap2 : Apart B Z0 F2 fp' f' := ⟨fun b hb => by
      obtain ⟨q1, q2, q3, q4⟩ := ap.1 b hb
      obtain ⟨o, eo, mu⟩ := hv.there b hb
      exact ⟨s12.out eo mu q2 q1 (fun z => (by cases z)), q2, q3, q4⟩, ap.2⟩
    have hv2 : Own X.K F2 H2 n v x f' := Val.step (m := .own n) hv s12 fun b hb => (ap.1 b hb).2.1
    have haf : a ∉ f' := fun z => (ap2.1 a z).2.2.2 (hin a List.mem_cons_self)
    obtain ⟨g3, o3, sub, nd⟩ := OwnL.set hv2 kx t (nd_of hgn ap.2 fun b hb z => (ap2.1 b hb).2.2.2 (hin b (List.mem_cons_of_mem _ z)))
    have hag3 : a ∉ g3 := fun z => (sub a z).elim hag haf
    obtain ⟨fp3, S3⟩ := kk (.lst (vs.set kx v)) (.lst (ds.set kx x)) g3 f' rfl ap2 sub nd ⟨a, vs.set kx v, g3, rfl, upd_same, rfl, o3.upd hag3⟩
    exact ⟨a, vs, j', kx, rfl, rfl, ha2, by rw [t.len]; exact hk, L.nx F2 _ _ _ fp3 S3 hR⟩
/-- P[k] = e, P a dict, what is kept may be read -/
theorem ds_putP (hu : X.A.units + 1 < cLine) (he : DM X B e pin (.own 0) f) (ho : DP X B o i g) (hj : DE X B e2 (.own 0) fe) (hs : swapsWith e (some (.Subscript o e2 apos)) pos.line X.env = pure false := by rfl) :
    DS X B (.Assign [.Subscript o e2 apos] e pos) pin mr (fun E ρ => f ρ fun x ρ' => g ρ' fun p => fe ρ' fun j => atP ρ' i p fun n' d y => n' = 0 ∧ ∃ y', putDD y j x = some y' ∧ E.nx (ρ'.set i (some (1 + p.length, setP d p y')))) :=
  PS.imp (ps_dput hu ho hj he hs) fun Dn σ H ⟨Pn, Z0, F0, F, ρ, fp, E, hpl, S, hf, L⟩ => by
    refine ⟨Pn, Z0, F0, F, ρ, fp, _, hpl, S, hf, fun F' H' ρ' fp' v x f' S' hv ap hg => ?_⟩
    refine ⟨F', ρ', fp', _, S'.base, hg, fun F1 H1 p w v0 s1 hv0 hp hf => ?_⟩
    have S1 := S'.step s1 fun a h => (by cases h)
    refine ⟨F1, ρ', fp', _, S1.base, hf, fun F2 H2 y j fj s2 hw oj nj hR => ?_⟩
    have S2 := S1.step s2 fun a h => (by cases h)
    obtain ⟨n', d, y0, es, hs, rfl, y', hy, hR⟩ := hR.inv
    have s12 := s1.trans s2 fun a h => (by cases h)
    obtain ⟨hv0', rfl⟩ := (show Own X.K F' H' 0 v x f' from hv)
    have hx := R.mono s12.fs hv0'
    have hpp := hp.same s2.same
    cases y0 <;> try (cases hy; done)
    · rename_i ys
      obtain ⟨v2, a, g2, o2, hv2, pv2, ha2, ⟨kvs, rfl, hk, t⟩, hag, hgn, hin, kk⟩ := S2.path es hs own_dK
      rw [hv0] at hv2
      cases hv2
      cases hpp.det pv2
      obtain ⟨u, dp, eu, ow⟩ := dput_ok (Da := a) (acc := .dK ys) S2.wf (show Own X.K F2 H2 1 (.ref a) (.dK ys) [a] from ⟨a, kvs, [], rfl, ha2, rfl, hk, OwnL.zero t.toRL0⟩) hw.1 hx hy
      obtain ⟨fp3, S3⟩ := kk u y' [] [] eu .nil (fun b h => (by cases h)) List.nodup_nil ow
      exact ⟨a, _, rfl, dp, L.nx F2 _ _ _ fp3 S3 (by rw [Nat.zero_add]; exact hR)⟩
    · rename_i ys
      obtain ⟨v2, a, g2, o2, hv2, pv2, ha2, ⟨kvs, rfl, hk, t⟩, hag, hgn, hin, kk⟩ := S2.path es hs own_dT
      rw [hv0] at hv2
      cases hv2
      cases hpp.det pv2
      obtain ⟨u, dp, eu, ow⟩ := dput_ok (Da := a) (acc := .dT ys) S2.wf (show Own X.K F2 H2 1 (.ref a) (.dT ys) [a] from ⟨a, kvs, [], rfl, ha2, rfl, hk, OwnL.zero t.toRL0⟩) hw.1 hx hy
      obtain ⟨fp3, S3⟩ := kk u y' [] [] eu .nil (fun b h => (by cases h)) List.nodup_nil ow
      exact ⟨a, _, rfl, dp, L.nx F2 _ _ _ fp3 S3 (by rw [Nat.zero_add]; exact hR)⟩
end
end GK

namespace GK
open PySem PySem.Spec PyProof.Rows L2

/-! ### texts -/
/-- a text times an int -/
def repS (z : Str) (n : Int) : Str := ⟨((List.replicate n.toNat z.cps.toList).flatten).toArray⟩
theorem foldl_app (l : List (Array Nat)) : ∀ (a : Array Nat), (l.foldl (· ++ ·) a).toList = a.toList ++ (l.map Array.toList).flatten := by
  induction l with
  | nil => intro a; simp
  | cons x r ih => intro a; rw [List.foldl_cons, ih]; simp
theorem repS_of (z : Str) (n : Int) : (⟨(List.replicate n.toNat z.cps).foldl (· ++ ·) #[]⟩ : Str) = repS z n := by
  unfold repS
  congr 1
  apply Array.toList_inj.mp
  rw [foldl_app, List.map_replicate]
  simp
theorem repS_len (z : Str) (n : Int) : (repS z n).length = n.toNat * z.length := by
  unfold repS Str.length
  simp
theorem op_repS {X : Cx} : OpR X (binaryOp .Mult) (fun x y H Q => ∃ z n, x = .str z ∧ y = .int n ∧ -(2 ^ 63) ≤ n ∧ n < 2 ^ 63 ∧ n.toNat * z.length ≤ sizeLine ∧ Q (.str (repS z n)) H) := by
  intro pins s σ H x y v u Q I rx ry ⟨z, n, e1, e2, h1, h2, h3, q⟩
  subst e1
  subst e2
  obtain ⟨t, rfl⟩ := rx
  obtain ⟨t', rfl⟩ := ry
  have hs : (sizeLine : Nat) = 16777216 := by decide
  have fin : ∀ (w : Str), w = repS z n → (w.length ≤ sizeLine ∧ EP X pins σ Q (.str w s.toks) { s with toks := s.toks + 1 }) := fun w e => by
    subst e
    exact ⟨by rw [repS_len]; exact h3, .str _, H, I.tok _, ⟨_, rfl⟩, q⟩
  refine PySem.P.mul_str ?_ (fun g1 _ => ?_) (fun g1 _ => ?_) ?_
  · rw [decide_eq_false (by omega), decide_eq_false (by omega)]; rfl
  · have hn : (n.toNat : Int) = n := Int.toNat_of_nonneg (by omega)
    have hp : 0 < n := by omega
    have hh : ((n.toNat * z.length : Nat) : Int) ≤ 16777216 := by omega
    have h4 : (z.length : Int) * n ≤ 2 ^ 63 - 1 := by
      rw [← hn, Int.mul_comm]
      rw [Int.natCast_mul] at hh
      omega
    have := Int.le_ediv_of_mul_le hp h4
    omega
  · have : ¬ (z.length * n.toNat > sizeLine) := by rw [Nat.mul_comm]; omega
    unfold Builtin.Str.tooLong
    exact decide_eq_false this
  · split
    · rename_i hlt
      refine fin Str.empty ?_
      have h0 : n.toNat = 0 := by omega
      unfold repS
      rw [h0]
      rfl
    · split
      · rename_i hn1 hc
        refine ⟨.str z, H, I, ⟨_, rfl⟩, ?_⟩
        have e : repS z n = z := by
          rw [Bool.or_eq_true] at hc
          unfold repS
          rcases hc with hc | hc
          · have : n = 1 := by simpa using hc
            subst this
            simp
          · have h0 : z.length = 0 := by simpa using hc
            have h0' : z.cps = #[] := by
              apply Array.eq_empty_of_size_eq_zero
              exact h0
            have ez : z = ⟨#[]⟩ := by cases z; simp_all
            rw [ez]
            simp
        rw [e] at q
        exact q
      · exact fin _ (repS_of z n)
def gCatS : D → D → (D → Prop) → Prop
  | .str a, .str b, R => a.length + b.length ≤ sizeLine ∧ R (.str (a ++ b))
  | _, _, _ => False
def gRepS : D → D → (D → Prop) → Prop
  | .str a, .int n, R => -(2 ^ 63) ≤ n ∧ n < 2 ^ 63 ∧ n.toNat * a.length ≤ sizeLine ∧ R (.str (repS a n))
  | _, _, _ => False
section
variable {X : Cx} {a b e : Expr} {pos apos cpos : Pos} {m m1 m2 : Mode} {f f' : FE}
theorem de_catS (ha : DE X B a m1 f) (hb : DE X B b m2 f') : DE X B (.BinOp a .Add b pos) m (fBin gCatS f f') := de_op op_add_str (by
  intro B F H x y d e fp R Q w ⟨f1, f2, ef, hx, hy⟩ _ hg k
  cases d <;> cases e <;> try exact (show False from hg).elim
  obtain ⟨rfl, _⟩ := hx.str
  obtain ⟨rfl, _⟩ := hy.str
  exact ⟨_, _, rfl, rfl, hg.1, k.str w hg.2⟩) ha hb
theorem de_repS (ha : DE X B a m1 f) (hb : DE X B b m2 f') : DE X B (.BinOp a .Mult b pos) m (fBin gRepS f f') := de_op op_repS (by
  intro B F H x y d e fp R Q w ⟨f1, f2, ef, hx, hy⟩ _ hg k
  cases d <;> cases e <;> try exact (show False from hg).elim
  obtain ⟨rfl, _⟩ := hx.str
  obtain ⟨rfl, _⟩ := hy.int
  exact ⟨_, _, rfl, rfl, hg.1, hg.2.1, hg.2.2.1, k.str w hg.2.2.2⟩) ha hb
def strD : D → Prop
  | .str _ => True
  | _ => False
def gFind : D → List D → (D → Prop) → Prop
  | .str a, [.str b], R => R (.int (Txt.find a b))
  | _, _, _ => False
/-- z.find(y) -/
theorem de_find {o : Expr} (ho : DE X B o m1 f) (ha : DE X B e m2 f') (hb : BmOk X o "find" apos e [] cpos := by exact ⟨rfl, rfl, rfl, rfl, rfl⟩) : DE X B (.Call (.Attribute o "find" apos) [e] [] cpos) m (fun ρ R => f ρ fun d => strD d ∧ fCons f' fNil ρ fun ds => gFind d ds R) :=
  de_M PySem.F.plainAttrs_str PySem.F.slot_str_find PySem.F.type_str_find mt_find ⟨fun B F H x d fp w hv hf h => by
    cases d <;> try exact h.elim
    obtain ⟨rfl, _⟩ := hv.str
    exact (rfl : "str" = "str"), fun B F H x d vs ds fp R Q w ⟨f1, f2, ef, hx, hv⟩ hf hg k => by
    unfold gFind at hg
    split at hg
    · obtain ⟨rfl, _⟩ := hx.str
      obtain ⟨v, rfl, hw⟩ := ValL.one hv
      obtain ⟨rfl, _⟩ := hw.str
      exact ⟨_, _, rfl, rfl, k.int w hg⟩
    · exact hg.elim⟩ ho (da_cons ha da_nil hb.4) hb
end
end GK

namespace GK
open PySem PySem.Spec PyProof.Rows L2

/-! ### sorted, list, sum, isinstance, in -/
def leD : D → D → Bool := PySem.W.dataLe false toP
inductive Pr (P : V → D → Prop) : List V → List D → Prop where
  | nil : Pr P [] []
  | cons {v : V} {d : D} {vs : List V} {ds : List D} (h : P v d) (t : Pr P vs ds) : Pr P (v :: vs) (d :: ds)
theorem each_pr {P : V → D → Prop} : ∀ {us : List Value} {ds : List D}, PySem.W.EachIs (fun u d => ∃ v, RelV v u ∧ P v d) us ds → ∃ vs, Vals vs us ∧ Pr P vs ds
  | _, _, .nil => ⟨[], .nil, .nil⟩
  | _, _, .cons ⟨v, r, p⟩ t => by
    obtain ⟨vs, h1, h2⟩ := each_pr t
    exact ⟨v :: vs, .cons r h1, .cons p h2⟩
theorem pr_each {P : V → D → Prop} : ∀ {vs : List V} {us : List Value} {ds : List D}, Vals vs us → Pr P vs ds → PySem.W.EachIs (fun u d => ∃ v, RelV v u ∧ P v d) us ds
  | _, _, _, .nil, .nil => .nil
  | _, _, _, .cons r t, .cons p q => .cons ⟨_, r, p⟩ (pr_each t q)
def rSortD (K : PySem.W.Frag) : List V → Hp → VK → Prop := fun vs H Q => ∃ (a : Addr) (xs : List V) (ds : List D) (P : V → D → Prop), vs = [.ref a] ∧ SqL K H a xs ∧ Pr P xs ds ∧ (∀ v d, P v d → d ∈ ds → Dp K H v (toP d)) ∧
  PySem.W.AllAlike (ds.map toP) ∧ PySem.W.Sortable (ds.map toP) ∧ (∀ d ∈ ds, (toP d).depth ≤ 64) ∧ ∀ ys p, Pr P ys (ds.mergeSort leD) → H p = none → Q (.ref p) (upd H p (.lst ys))
theorem each_memD {R : Value → D → Prop} : ∀ {us : List Value} {ds : List D}, PySem.W.EachIs R us ds → PySem.W.EachIs (fun u d => R u d ∧ d ∈ ds) us ds
  | _, _, .nil => .nil
  | _, _, .cons h t => .cons ⟨h, List.mem_cons_self⟩ ((each_memD t).mono fun _ _ ⟨a, b⟩ => ⟨a, List.mem_cons_of_mem _ b⟩)
theorem cr_sortD {X : Cx} (hu : X.A.units + 67 < cLine) : CallR X (.builtin "sorted") (rSortD X.K) := by
  intro pins s σ H vs us Q I r ⟨a, xs, ds, P, e, hs, hp, hd, hal, hso, hde, q⟩
  subst e
  obtain ⟨its, rv, hl, hz⟩ := I.list hs
  rw [Vals.ref1 r]
  have ev := pr_each rv hp
  have er : PySem.W.EachIs (fun u d => ∃ as, Reads s.heap u (toP d) as) its ds := (each_memD ev).mono fun u d ⟨⟨v, r, p⟩, hm⟩ => Dp.reads I (toP d) v u (hd v d p hm) r
  have lz : ds.length ≤ sizeLine := by rw [← ev.length, ← rv.length]; exact hz
  refine PySem.W.sorted_data hl.isList ev er hal hso lz (fun d hm => by have := hde d hm; omega) fun out hlen eo => ?_
  obtain ⟨ys, h1, h2⟩ := each_pr eo
  obtain ⟨ep, he'⟩ := PyProof.Rows.sortedAll_at s.heap its out.toArray
  exact ⟨.ref _, upd H (s.heap.objs.size + 1) (.lst ys), I.laid (t' := s.toks) (fun _ _ => PyProof.Rows.sortedAll_old) (Nat.le_succ _) ⟨by rw [h1.length, hlen]; exact lz, out, ep, h1, he'⟩, rfl, q _ _ h2 (I.hok.fresh (Nat.le_succ _))⟩
theorem pr_rl {K : PySem.W.Frag} {F : Hp} : ∀ {vs : List V} {ds : List D}, Pr (R K F) vs ds → RL K F vs ds
  | _, _, .nil => .nil
  | _, _, .cons h t => .cons h (pr_rl t)
theorem rl_pr {K : PySem.W.Frag} {F : Hp} : ∀ {vs : List V} {ds : List D}, RL K F vs ds → Pr (R K F) vs ds
  | _, _, .nil => .nil
  | _, _, .cons h t => .cons h (rl_pr t)
def sortOk (ds : List D) : Prop := (∀ d ∈ ds, okD 64 d = true) ∧ PySem.W.AllAlike (ds.map toP) ∧ PySem.W.Sortable (ds.map toP)
def gSort : List D → (D → Prop) → Prop
  | [.lst ds], R => sortOk ds ∧ R (.lst (ds.mergeSort leD))
  | _, _ => False
theorem opN_sort {K : PySem.W.Frag} {m1 : Mode} (h1 : m1.flat1 = true) : OpN K (rSortD K) [m1] (.own 1) gSort := by
  intro B F H vs ds fp R Q w hv hf hg k
  unfold gSort at hg
  split at hg
  · obtain ⟨v, rfl, h⟩ := hv.one
    obtain ⟨a, xs, rfl, ha, r⟩ := h.lstRL h1 w
    exact ⟨a, xs, _, GK.R K F, rfl, SqL.of ha, rl_pr r, fun v d r hm => GK.R.dp (hg.1.1 d hm) (r.mono w.sub), hg.1.2.1, hg.1.2.2, fun d hm => (okD_can (hg.1.1 d hm)).2, fun ys p hy hz => k.newLst0 w (pr_rl hy) hg.2 hz⟩
  · exact hg.elim
def gListL : List D → (D → Prop) → Prop
  | [.lst ds], R => R (.lst ds)
  | _, _ => False
def gListT : List D → (D → Prop) → Prop
  | [.tup ds], R => R (.lst ds)
  | _, _ => False
def gListK : List D → (D → Prop) → Prop
  | [d], R => ∃ ks, keysD d = some ks ∧ R (.lst ks)
  | _, _ => False
theorem opN_listL {K : PySem.W.Frag} {m1 : Mode} (h1 : m1.flat1 = true) : OpN K (fun xs H Q => ∃ p ys, xs = [.ref p] ∧ (SqL K H p ys ∨ SqT K H p ys) ∧ ∀ l, H l = none → Q (.ref l) (upd H l (.lst ys))) [m1] (.own 1) gListL := by
  intro B F H vs ds fp R Q w hv hf hg k
  unfold gListL at hg
  split at hg
  · obtain ⟨v, rfl, h⟩ := hv.one
    obtain ⟨a, xs, rfl, ha, r⟩ := h.lstRL h1 w
    exact ⟨a, xs, rfl, .inl (SqL.of ha), fun l hl => k.newLst0 w r hg hl⟩
  · exact hg.elim
theorem opN_listT {K : PySem.W.Frag} : OpN K (fun xs H Q => ∃ p ys, xs = [.ref p] ∧ (SqL K H p ys ∨ SqT K H p ys) ∧ ∀ l, H l = none → Q (.ref l) (upd H l (.lst ys))) [.own 0] (.own 1) gListT := by
  intro B F H vs ds fp R Q w hv hf hg k
  unfold gListT at hg
  split at hg
  · obtain ⟨v, rfl, h⟩ := hv.one
    obtain ⟨a, xs, rfl, ha, r⟩ := (show GK.R K F v _ from h.1).tupI
    exact ⟨a, xs, rfl, .inr (sqT_rd (w.sub _ _ ha)), fun l hl => k.newLst0 w r hg hl⟩
  · exact hg.elim
theorem BagOk.noTup {B : List Addr} {H : Hp} (b : BagOk B H) {a : Addr} {vs : List V} (h : H a = some (.tup vs)) : a ∉ B := by
  intro hm
  rcases b with e | ⟨b, c, l, ts, cells, left, turn, e, ht, h1, h2, h3, _⟩
  · rw [e] at hm; cases hm
  · rw [e] at hm
    rcases List.mem_cons.mp hm with z | hm
    · subst z; rw [h1] at h; cases h
    · rcases List.mem_cons.mp hm with z | hm
      · subst z; rw [h2] at h; cases h
      · rcases List.mem_cons.mp hm with z | hm
        · subst z; rw [h3] at h; cases h
        · obtain ⟨o, xs, q⟩ := ht a hm
          rw [q] at h; cases h
theorem keys_rl {K : PySem.W.Frag} {G H : Hp} (hG : ∀ a vs, H a = some (.tup vs) → G a = some (.tup vs)) : ∀ {kvs : List (List Key × V)} {bs : List Addr}, Paired (fun p b => H b = some (.tup (p.1.map kV))) kvs bs → RL K G (bs.map V.ref) (kvs.map fun p => D.tup (p.1.map keyD))
  | _, _, .nil => .nil
  | _, _, .cons h t => .cons (.tup (hG _ _ h) (keysD_RL _)) (keys_rl hG t)
theorem opN_listK {K : PySem.W.Frag} {m1 : Mode} (h1 : m1.look = true) : OpN K (fun xs H Q => (∃ (a : Addr) (kvs : List (Key × V)), xs = [.ref a] ∧ Rd H a (.dK kvs) ∧ ∀ p, H p = none → Q (.ref p) (upd H p (.lst (kvs.map fun kv => kV kv.1)))) ∨
    ∃ d kvs, xs = [V.ref d] ∧ Rd H d (.dT kvs) ∧ ∀ p bs, H p = none → IsKeys H kvs bs → Q (.ref p) (upd H p (.lst (bs.map V.ref)))) [m1] (.own 1) gListK := by
  intro B F H vs ds fp R Q w hv hf hg k
  unfold gListK at hg
  split at hg
  · rename_i d
    obtain ⟨ks, ek, hR⟩ := hg
    obtain ⟨v, rfl, h⟩ := hv.one
    cases d <;> try (cases ek; done)
    · rename_i es
      obtain ⟨_, a, kvs, rfl, hr, hk, it⟩ := h.dK h1 w
      have ek' := Option.some.inj ek
      subst ek'
      refine .inl ⟨a, kvs, rfl, hr, fun p hp => ?_⟩
      have e1 : (kvs.map fun kv => kV kv.1) = (kvs.map (·.1)).map kV := by rw [List.map_map]; rfl
      have e2 : (es.map fun e => keyD e.1) = (es.map (·.1)).map keyD := by rw [List.map_map]; rfl
      rw [e1, hk]
      rw [e2] at hR
      exact k.newLst0 w (keysD_RL _) hR hp
    · rename_i es
      obtain ⟨_, a, kvs, rfl, hr, hk, it⟩ := h.dT h1 w
      have ek' := Option.some.inj ek
      subst ek'
      refine .inr ⟨a, kvs, rfl, hr, fun p bs hp hb => ?_⟩
      have e2 : (es.map fun e => D.tup (e.1.map keyD)) = kvs.map fun e => D.tup (e.1.map keyD) := by
        have : ∀ (l : List (List Key)), (l.map fun k => D.tup (k.map keyD)) = l.map fun k => D.tup (k.map keyD) := fun _ => rfl
        have a1 : (es.map fun e => D.tup (e.1.map keyD)) = (es.map (·.1)).map fun k => D.tup (k.map keyD) := by rw [List.map_map]; rfl
        have a2 : (kvs.map fun e => D.tup (e.1.map keyD)) = (kvs.map (·.1)).map fun k => D.tup (k.map keyD) := by rw [List.map_map]; rfl
        rw [a1, a2, hk]
      rw [e2] at hR
      have s := (Step.refl (A := fp) w).addT
      exact (k.after s (A1 := fp) fun a ha => .inl ha).newLst0 s.wf (keys_rl (fun a vs h => addT_tup w.sub (rdH_of (w.bag.noTup h) h rfl)) hb) hR hp
  · exact hg.elim
def intsOf : List D → Option (List Int)
  | [] => some []
  | .int i :: ds => (intsOf ds).map (i :: ·)
  | _ => none
theorem ints_of {ds : List D} {ns : List Int} (h : intsOf ds = some ns) : ds = ns.map D.int := by
  induction ds generalizing ns with
  | nil => cases h; rfl
  | cons d r ih =>
    cases d <;> try (cases h; done)
    rename_i i
    have h : (intsOf r).map (i :: ·) = some ns := h
    cases q : intsOf r with
    | none => rw [q] at h; cases h
    | some l =>
      rw [q] at h
      cases h
      rw [ih q]; rfl
theorem Items.ints {K : PySem.W.Frag} {m : Mode} {B : List Addr} {F H : Hp} {vs : List V} {ns : List Int} (it : Items K m B F H vs (ns.map D.int)) : vs = ns.map V.int := by
  refine List.ext_getElem? fun i => ?_
  cases q : ns[i]? with
  | none =>
    have hl := List.getElem?_eq_none_iff.mp q
    rw [List.getElem?_eq_none (by rw [it.1, List.length_map]; exact hl), List.getElem?_eq_none (by rw [List.length_map]; exact hl)]
  | some n =>
    have e : (ns.map D.int)[i]? = some (.int n) := by rw [List.getElem?_map, q]; rfl
    obtain ⟨x, h1, h2⟩ := it.2 i _ e
    obtain ⟨rfl, _⟩ := h2.int
    rw [h1, List.getElem?_map, q]; rfl
def gSum : List D → (D → Prop) → Prop
  | [.lst ds], R => ∃ ns, intsOf ds = some ns ∧ R (.int ns.sum)
  | _, _ => False
theorem opN_sum {K : PySem.W.Frag} {m1 m : Mode} (h1 : m1.look = true) : OpN K (rSum K) [m1] m gSum := by
  intro B F H vs ds fp R Q w hv hf hg k
  unfold gSum at hg
  split at hg
  · obtain ⟨ns, e, hR⟩ := hg
    obtain ⟨v, rfl, h⟩ := hv.one
    obtain ⟨_, a, xs, rfl, ha, it⟩ := h.lst h1 w
    have e' := ints_of e
    subst e'
    have := it.ints
    subst this
    exact ⟨a, ns, rfl, ha, k.int w hR⟩
  · exact hg.elim
/-! the type of a value -/
def tyD : D → Option Value
  | .non => some (.type "NoneType")
  | .bl _ => some (.type "bool")
  | .int _ => some (.type "int")
  | .str _ => some (.type "str")
  | .tup _ => some (.type "tuple")
  | .lst _ => some (.type "list")
  | .dK _ => some (.type "dict")
  | .dT _ => none
  | .obj C _ => some (.ref C)
  | .raw _ => none
/-- what is to be known of a class for isinstance -/
structure IsiC (K : PySem.W.Frag) (C : Addr) : Prop where
  cl : Cls K C
  ha : PySem.W.findIn K (.ref C) "__class__" = some (some (.builtin "object.__class__"))
  hn : PySem.W.specialIn K (.builtin "object.__class__") "__get__" = some (some (.builtin "getset_descriptor.__get__"))
  ht : PySem.W.takesIn K (.builtin "object.__class__") = some true
  hm : PySem.W.mroIn K C (.type "object") = some true
def clV : V → Option Value
  | .ty n => some (.type n)
  | .ref C => some (.ref C)
  | _ => none
def gIsi (K : PySem.W.Frag) : List D → (D → Prop) → Prop
  | [d, .raw c], R => ∃ t u b, tyD d = some t ∧ clV c = some u ∧ PySem.W.kitOne K t u = some b ∧ (∀ C es, d = .obj C es → IsiC K C) ∧ R (.bl b)
  | _, _ => False
end GK

namespace GK
open PySem PySem.Spec PyProof.Rows L2

section
variable {K : PySem.W.Frag} {m m1 m2 : Mode}
theorem Val.tyX {B fp : List Addr} {F H : Hp} {v : V} {d : D} {t : Value} (hm : m.look = true) (w : WF B F H) (h : Val K m B F H v d fp) (e : tyD d = some t) (hc : ∀ C es, d = .obj C es → IsiC K C) : TyX K H v t := by
  cases d <;> try (cases e; done)
  · cases e; obtain ⟨rfl, _⟩ := h.non; exact .base .non
  · cases e; obtain ⟨rfl, _⟩ := h.bl; exact .base (.bl _)
  · cases e; obtain ⟨rfl, _⟩ := h.int; exact .base (.int _)
  · cases e; obtain ⟨rfl, _⟩ := h.str; exact .base (.str _)
  · cases e
    obtain ⟨_, a, vs, rfl, hs, _⟩ := h.tup hm w
    rcases hs with hs | ⟨o, its, n, hk, h1, _⟩
    · rcases hs with hs | ⟨o, hs⟩
      · exact .base (.tup hs)
      · exact .fTuple hs
    · exact .kTuple hk h1
  · cases e
    obtain ⟨_, a, vs, rfl, hs, _⟩ := h.lst hm w
    rcases hs with hs | ⟨o, its, n, hk, h1, _⟩
    · rcases hs with hs | ⟨o, hs⟩
      · exact .base (.lst hs)
      · exact .base (.frz hs)
    · exact .kList hk h1
  · cases e
    obtain ⟨_, a, kvs, rfl, hr, _⟩ := h.dK hm w
    rcases hr with hs | ⟨o, hs⟩
    · exact .base (.dK hs)
    · exact .fDict hs
  · cases e
    rename_i C es
    obtain ⟨_, a, dx, fs, rfl, ha, _⟩ := h.obj hm w
    have c := hc C es rfl
    exact .base (.ins ha c.cl c.ha c.hn c.ht c.hm)
theorem raw_v {B fp : List Addr} {F H : Hp} {v c : V} (h : Val K m B F H v (.raw c) fp) : v = c := by
  cases m with
  | rd => cases h.1; rfl
  | bor n =>
    obtain ⟨⟨f, h, _⟩, _⟩ := h
    cases n with
    | zero => cases h.1; rfl
    | succ n => cases h.1; rfl
  | own n =>
    cases n with
    | zero => cases (show Own K F H 0 v _ fp from h).1; rfl
    | succ n => cases (show R K F v _ ∧ _ from h).1; rfl
theorem clV_ok {c : V} {u : Value} (h : clV c = some u) : ClsV c u := by
  cases c <;> try (cases h; done)
  · cases h; exact .own _
  · cases h; exact .ty _
theorem opN_isi (hm : m1.look = true) : OpN K (rIsi K) [m1, m2] m (gIsi K) := by
  intro B F H vs ds fp R Q w hv hf hg k
  unfold gIsi at hg
  split at hg
  · obtain ⟨t, u, b, e1, e2, e3, hc, hR⟩ := hg
    obtain ⟨v, v', f, f', rfl, h, h', _⟩ := hv.two
    have := raw_v h'
    subst this
    exact ⟨v, _, t, u, b, rfl, clV_ok e2, h.tyX hm w e1 hc, e3, k.bl w hR⟩
  · exact hg.elim
end
section
variable {X : Cx} {e e2 : Expr} {x : Str} {p pos : Pos} {m m1 m2 : Mode} {f f' : FE}
theorem de_ty {T : String} (hg : Gl X x) (hm : X.mg x = none) (hv : bootBuiltins x = some (.type T)) (hn : x ≠ "__name__" := by decide) (hd : (x == ("__debug__" : Str)) = false := by decide) : DE X B (.Name x pos) m (fun _ R => R (.raw (.ty T))) :=
  PE.imp (pe_bltn hg hm hv (v := .ty T) rfl hn hd) fun σ H Q ⟨F, ρ, fp, R, S, hf, k⟩ => k.at S.wf rfl (fun _ => .raw _) hf
/-- a class, a def of the module -/
theorem de_glb {a : Addr} (hg : Gl X x) (hm : X.mg x = some (.ref a)) (hd : (x == ("__debug__" : Str)) = false := by decide) : DE X B (.Name x pos) m (fun _ R => R (.raw (.ref a))) :=
  PE.imp (pe_glob hg hm (v := .ref a) rfl hd) fun σ H Q ⟨F, ρ, fp, R, S, hf, k⟩ => k.at S.wf rfl (fun _ => .raw _) hf
/-- a constant of the module that is an int or a text -/
theorem de_gint {i : Int} {t : Tok} (hg : Gl X x) (hm : X.mg x = some (.int i t)) (hd : (x == ("__debug__" : Str)) = false := by decide) : DE X B (.Name x pos) m (fun _ R => R (.int i)) :=
  PE.imp (pe_glob hg hm (v := .int i) ⟨_, rfl⟩ hd) fun σ H Q ⟨F, ρ, fp, R, S, hf, k⟩ => k.int S.wf hf
theorem de_gstr {i : Str} {t : Tok} (hg : Gl X x) (hm : X.mg x = some (.str i t)) (hd : (x == ("__debug__" : Str)) = false := by decide) : DE X B (.Name x pos) m (fun _ R => R (.str i)) :=
  PE.imp (pe_glob hg hm (v := .str i) ⟨_, rfl⟩ hd) fun σ H Q ⟨F, ρ, fp, R, S, hf, k⟩ => k.str S.wf hf
theorem de_isi (hz : X.mg "isinstance" = none) (ha : DE X B e m1 f) (hb : DE X B e2 m2 f') (hm : m1.look = true := by rfl) (hg : Gl X "isinstance" := by rfl) (he : starEach [e, e2] X.env = (false, eval e X.env) :: starEach [e2] X.env := by rfl) (he2 : starEach [e2] X.env = (false, eval e2 X.env) :: starEach [] X.env := by rfl) (hpl : (backTo pos (starEach [e2] X.env)).any (·.1) = false := by rfl) :
    DE X B (.Call (.Name "isinstance" p) [e, e2] [] pos) m (fArgs (gIsi X.K) (fCons f (fCons f' fNil))) := de_B call_isi (opN_isi hm) hg hz (by decide +kernel) (da_cons ha (da_cons hb da_nil he2) he) (by decide) (by decide) he hpl
theorem de_sorted (hu : X.A.units + 67 < cLine) (hz : X.mg "sorted" = none) (ha : DE X B e m1 f) (hm : m1.flat1 = true := by rfl) (hg : Gl X "sorted" := by rfl) (he : starEach [e] X.env = (false, eval e X.env) :: starEach [] X.env := by rfl) (hpl : (backTo pos (starEach [] X.env)).any (·.1) = false := by rfl) :
    DE X B (.Call (.Name "sorted" p) [e] [] pos) (.own 1) (fArgs gSort (fCons f fNil)) := de_B (cr_sortD hu) (opN_sort hm) hg hz (by decide +kernel) (da_cons ha da_nil he) (by decide) (by decide) he hpl
theorem de_sum (hc : X.calm = true) (hz : X.mg "sum" = none) (ha : DE X B e m1 f) (hm : m1.look = true := by rfl) (hg : Gl X "sum" := by rfl) (he : starEach [e] X.env = (false, eval e X.env) :: starEach [] X.env := by rfl) (hpl : (backTo pos (starEach [] X.env)).any (·.1) = false := by rfl) :
    DE X B (.Call (.Name "sum" p) [e] [] pos) m (fArgs gSum (fCons f fNil)) := de_B (cr_sum hc) (opN_sum hm) hg hz (by decide +kernel) (da_cons ha da_nil he) (by decide) (by decide) he hpl
theorem de_listL (hz : X.mg "list" = none) (ha : DE X B e m1 f) (hm : m1.flat1 = true := by rfl) (hg : Gl X "list" := by rfl) (he : starEach [e] X.env = (false, eval e X.env) :: starEach [] X.env := by rfl) (hpl : (backTo pos (starEach [] X.env)).any (·.1) = false := by rfl) :
    DE X B (.Call (.Name "list" p) [e] [] pos) (.own 1) (fArgs gListL (fCons f fNil)) := de_Ty call_list_of (opN_listL hm) hg hz (by decide +kernel) (da_cons ha da_nil he) (by decide) (by decide) he hpl
theorem de_listT (hz : X.mg "list" = none) (ha : DE X B e (.own 0) f) (hg : Gl X "list" := by rfl) (he : starEach [e] X.env = (false, eval e X.env) :: starEach [] X.env := by rfl) (hpl : (backTo pos (starEach [] X.env)).any (·.1) = false := by rfl) :
    DE X B (.Call (.Name "list" p) [e] [] pos) (.own 1) (fArgs gListT (fCons f fNil)) := de_Ty call_list_of opN_listT hg hz (by decide +kernel) (da_cons ha da_nil he) (by decide) (by decide) he hpl
theorem de_listK (hc : X.calm = true) (hz : X.mg "list" = none) (ha : DE X B e m1 f) (hm : m1.look = true := by rfl) (hg : Gl X "list" := by rfl) (he : starEach [e] X.env = (false, eval e X.env) :: starEach [] X.env := by rfl) (hpl : (backTo pos (starEach [] X.env)).any (·.1) = false := by rfl) :
    DE X B (.Call (.Name "list" p) [e] [] pos) (.own 1) (fArgs gListK (fCons f fNil)) := de_Ty ((call_listD hc).or (call_list_dT hc)) (opN_listK hm) hg hz (by decide +kernel) (da_cons ha da_nil he) (by decide) (by decide) he hpl
end
/-! x in a list or tuple of atoms -/
def flD : D → Bool
  | .non => true
  | .bl _ => true
  | .int _ => true
  | .str _ => true
  | _ => false
def eqF : D → D → Bool
  | .non, .non => true
  | .bl a, .bl b => a == b
  | .int a, .int b => a == b
  | .str a, .str b => a == b
  | .bl a, .int b => (if a then 1 else 0) == b
  | .int a, .bl b => a == (if b then 1 else 0)
  | _, _ => false
end GK

namespace GK
open PySem PySem.Spec PyProof.Rows L2

/-! ### x in a list or tuple of atoms -/
def flV : D → V
  | .bl b => .bl b
  | .int i => .int i
  | .str s => .str s
  | _ => .non
def itemsOf : D → Option (List D)
  | .lst ds => some ds
  | .tup ds => some ds
  | _ => none
def gIn (n : Bool) (x y : D) (R : D → Prop) : Prop := ∃ ds, itemsOf y = some ds ∧ flD x = true ∧ ds.all flD = true ∧ R (.bl (n ^^ ds.any fun z => eqF z x))
section
variable {K : PySem.W.Frag} {m m1 m2 : Mode}
theorem Val.fl {B fp : List Addr} {F H : Hp} {v : V} {d : D} (e : flD d = true) (h : Val K m B F H v d fp) : v = flV d := by
  cases d <;> try (cases e; done)
  · exact h.non.1
  · exact h.bl.1
  · exact h.int.1
  · exact h.str.1
theorem Items.fl {B : List Addr} {F H : Hp} {vs : List V} {ds : List D} (e : ds.all flD = true) (it : Items K m B F H vs ds) : vs = ds.map flV := by
  refine List.ext_getElem? fun i => ?_
  cases q : ds[i]? with
  | none =>
    have hl := List.getElem?_eq_none_iff.mp q
    rw [List.getElem?_eq_none (by rw [it.1]; exact hl), List.getElem?_eq_none (by rw [List.length_map]; exact hl)]
  | some d =>
    obtain ⟨x, h1, h2⟩ := it.2 i _ q
    rw [h1, List.getElem?_map, q, h2.fl (List.all_eq_true.mp e d (List.mem_of_getElem? q))]; rfl
theorem flV_flat (d : D) : flatV (flV d) = true := by cases d <;> rfl
theorem eqF_V {z x : D} (hz : flD z = true) (hx : flD x = true) : eqV (flV z) (flV x) = eqF z x := by
  cases z <;> try (cases hz; done)
  all_goals (cases x <;> try (cases hx; done))
  all_goals rfl
theorem inV_D {x : D} (hx : flD x = true) : ∀ {ds : List D}, ds.all flD = true → inV (flV x) (ds.map flV) = ds.any fun z => eqF z x
  | [], _ => rfl
  | z :: ds, h => by
    rw [List.all_cons, Bool.and_eq_true] at h
    have ih := inV_D hx h.2
    unfold inV at ih ⊢
    rw [List.map_cons, List.any_cons, List.any_cons, ih, eqF_V h.1 hx]
theorem op2_in {n : Bool} (hm : m2.look = true) : Op2 K (rIn K n) m1 m2 m (gIn n) := by
  intro B F H x y d e fp R Q w ⟨f1, f2, ef, hx, hy⟩ _ ⟨ds, e1, e2, e3, hR⟩ k
  have ev := hx.fl e2
  subst ev
  have fin : ∀ {p : Addr} {vs : List V}, (SqL K H p vs ∨ SqT K H p vs) → vs = ds.map flV → rIn K n (flV d) (.ref p) H Q := fun {p vs} hs ev => by
    subst ev
    refine ⟨p, _, rfl, hs, flV_flat d, ?_, ?_⟩
    · rw [List.all_map]
      exact List.all_eq_true.mpr fun z _ => flV_flat z
    · rw [inV_D e2 e3]
      cases n with
      | true =>
        rw [if_pos rfl]
        exact k.bl w (by simpa using hR)
      | false =>
        rw [if_neg Bool.false_ne_true]
        exact k.bl w (by simpa using hR)
  cases e <;> try (cases e1; done)
  · cases e1
    obtain ⟨_, a, vs, rfl, hs, it⟩ := hy.tup hm w
    exact fin (.inr hs) (it.fl e3)
  · cases e1
    obtain ⟨_, a, vs, rfl, hs, it⟩ := hy.lst hm w
    exact fin (.inl hs) (it.fl e3)
/-- .. items at any depth -/
def gInD (n : Bool) (x y : D) (R : D → Prop) : Prop := ∃ ds, y = .lst ds ∧ okD 63 x = true ∧ okD 64 y = true ∧ R (.bl (n ^^ ds.any fun z => PyData.eqv (toP z) (toP x)))
theorem toPs_map : ∀ ds : List D, toPs ds = ds.map toP
  | [] => by simp [toPs]
  | d :: ds => by rw [toPs, List.map_cons, toPs_map ds]
theorem op2_inD : Op2 K (rInD K) m1 m2 m (gInD false) := by
  intro B F H x y d e fp R Q w ⟨f1, f2, ef, hx, hy⟩ hf ⟨ds, e1, e2, e3, hR⟩ k
  subst ef
  subst e1
  have r1 := hx.rd w fun a ha => (hf.1 a (List.mem_append_left _ ha)).2
  have r2 := hy.rd w fun a ha => (hf.1 a (List.mem_append_right _ ha)).2
  refine ⟨toP d, toPs ds, GK.R.dp e2 r1, by have := GK.R.dp e3 r2; rw [toP] at this; exact this, okD_shaped e2 (by decide), by have := okD_shaped e3 (by decide); rw [toP] at this; exact this, ?_⟩
  rw [toPs_map, List.any_map]
  exact k.bl w (by rw [Bool.false_xor] at hR; exact hR)
theorem op2_notInD : Op2 K (rNotInD K) m1 m2 m (gInD true) := by
  intro B F H x y d e fp R Q w ⟨f1, f2, ef, hx, hy⟩ hf ⟨ds, e1, e2, e3, hR⟩ k
  subst ef
  subst e1
  have r1 := hx.rd w fun a ha => (hf.1 a (List.mem_append_left _ ha)).2
  have r2 := hy.rd w fun a ha => (hf.1 a (List.mem_append_right _ ha)).2
  refine ⟨toP d, toPs ds, GK.R.dp e2 r1, by have := GK.R.dp e3 r2; rw [toP] at this; exact this, okD_shaped e2 (by decide), by have := okD_shaped e3 (by decide); rw [toP] at this; exact this, ?_⟩
  rw [toPs_map, List.any_map]
  exact k.bl w (by rw [Bool.true_xor] at hR; exact hR)
end
section
variable {X : Cx} {a b : Expr} {pos : Pos} {m m1 m2 : Mode} {f f' : FE}
theorem de_in (ha : DE X B a m1 f) (hb : DE X B b m2 f') (hm : m2.look = true := by rfl) (h1 : behindInMarks .In b = false := by rfl) : DE X B (.Compare a [.In] [b] pos) m (fBin (gIn false) f f') := de_cmp op_in_seq (op2_in hm) ha hb h1
theorem de_notin (ha : DE X B a m1 f) (hb : DE X B b m2 f') (hm : m2.look = true := by rfl) (h1 : behindInMarks .NotIn b = false := by rfl) : DE X B (.Compare a [.NotIn] [b] pos) m (fBin (gIn true) f f') := de_cmp op_notIn_seq (op2_in hm) ha hb h1
theorem dt_in (ha : DE X B a m1 f) (hb : DE X B b m2 f') (hm : m2.look = true := by rfl) (h1 : behindInMarks .In b = false := by rfl) : DT X B (.Compare a [.In] [b] pos) (fBool (fBin (gIn false) f f')) := dt_cmp .rd op_in_seq (op2_in hm) ha hb h1
theorem dt_notin (ha : DE X B a m1 f) (hb : DE X B b m2 f') (hm : m2.look = true := by rfl) (h1 : behindInMarks .NotIn b = false := by rfl) : DT X B (.Compare a [.NotIn] [b] pos) (fBool (fBin (gIn true) f f')) := dt_cmp .rd op_notIn_seq (op2_in hm) ha hb h1
theorem de_inD (hu : X.A.units + 65 < cLine) (ha : DE X B a m1 f) (hb : DE X B b m2 f') (h1 : behindInMarks .In b = false := by rfl) : DE X B (.Compare a [.In] [b] pos) m (fBin (gInD false) f f') := de_cmp (op_inD hu) op2_inD ha hb h1
theorem de_notinD (hu : X.A.units + 65 < cLine) (ha : DE X B a m1 f) (hb : DE X B b m2 f') (h1 : behindInMarks .NotIn b = false := by rfl) : DE X B (.Compare a [.NotIn] [b] pos) m (fBin (gInD true) f f') := de_cmp (op_notInD hu) op2_notInD ha hb h1
theorem dt_inD (hu : X.A.units + 65 < cLine) (ha : DE X B a m1 f) (hb : DE X B b m2 f') (h1 : behindInMarks .In b = false := by rfl) : DT X B (.Compare a [.In] [b] pos) (fBool (fBin (gInD false) f f')) := dt_cmp .rd (op_inD hu) op2_inD ha hb h1
theorem dt_notinD (hu : X.A.units + 65 < cLine) (ha : DE X B a m1 f) (hb : DE X B b m2 f') (h1 : behindInMarks .NotIn b = false := by rfl) : DT X B (.Compare a [.NotIn] [b] pos) (fBool (fBin (gInD true) f f')) := dt_cmp .rd (op_notInD hu) op2_notInD ha hb h1
end

/-! ### pop -/
section
variable {K : PySem.W.Frag} {B fp : List Addr} {Pn : List V} {Z0 F0 F H : Hp} {σ : L2.St} {ρ : Env} {n i : Nat}
theorem seqIx {i : Int} {n k : Nat} (h : ixN n i = some k) : seqIndex? i n = some k := by
  unfold ixN at h
  unfold seqIndex?
  split at h
  · rename_i h0
    split at h
    · rename_i h1
      cases h
      simp [show ¬ i < 0 by omega, h0, h1]
    · cases h
  · rename_i h0
    split at h
    · rename_i h1
      cases h
      simp [show i < 0 by omega, show 0 ≤ i + (n : Int) by omega, show i + (n : Int) < n by omega]
    · cases h
/-- an item is taken out of the list at a name -/
theorem StOk.popped {ds : List D} (S : StOk K B Pn Z0 F0 F H σ ρ fp) (e : slot ρ i = some (n + 1, .lst ds)) {k : Nat} {d : D} (hk : ds[k]? = some d) :
    ∃ a vs v f fp', σ[i]? = some (some (.ref a)) ∧ H a = some (.lst vs) ∧ vs.length = ds.length ∧ vs[k]? = some v ∧ StOk K B Pn Z0 F0 F (upd H a (.lst (vs.eraseIdx k))) σ (ρ.set i (some (n + 1, .lst (ds.eraseIdx k)))) fp' ∧
      Own K F (upd H a (.lst (vs.eraseIdx k))) n v d f ∧ Apart B Z0 F fp' f := by
  obtain ⟨v0, f0, fp1, e1, e2, S1, ap1, sub⟩ := S.take e
  obtain ⟨a, vs, g, rfl, ha, rfl, t⟩ := e2
  obtain ⟨hag, hg⟩ := List.nodup_cons.mp ap1.2
  obtain ⟨h1, h2, h3, h4⟩ := ap1.1 a List.mem_cons_self
  obtain ⟨g', t', sg, ng, kk⟩ := t.erase k hg
  have hl := t.len
  have hkl : k < ds.length := (List.getElem?_eq_some_iff.mp hk).1
  obtain ⟨v, hv⟩ : ∃ v, vs[k]? = some v := ⟨_, List.getElem?_eq_getElem (by omega)⟩
  obtain ⟨d', gv, q1, q2, q3, q4⟩ := kk v hv
  rw [hk] at q1
  cases q1
  obtain ⟨n1, n2, n3⟩ := List.nodup_append.mp q3
  have S2 := S1.mut (o := .lst (vs.eraseIdx k)) h4 h1 h2 h3 rfl
  have hag' : a ∉ g' := fun z => hag (sg a z)
  have hagv : a ∉ gv := fun z => hag (q4 a z)
  have ow : Own K F (upd H a (.lst (vs.eraseIdx k))) (n + 1) (.ref a) (.lst (ds.eraseIdx k)) (a :: g') := ⟨a, _, g', rfl, upd_same, rfl, t'.upd hag'⟩
  have hi : i < (ρ.set i none).length := by rw [List.length_set]; exact slot_lt e
  obtain ⟨fp2, o3, nd3, sub3⟩ := OwnE.set ow S2.own (List.nodup_append.mpr ⟨S2.nd, List.nodup_cons.mpr ⟨hag', ng⟩, fun b hb c hc e => by
    subst e
    rcases List.mem_cons.mp hc with z | z
    · subst z; exact h4 hb
    · exact (ap1.1 b (List.mem_cons_of_mem _ (sg b z))).2.2.2 hb⟩) hi
  rw [set_self e1, List.set_set] at o3
  have S3 : StOk K B Pn Z0 F0 F (upd H a (.lst (vs.eraseIdx k))) σ (ρ.set i (some (n + 1, .lst (ds.eraseIdx k)))) fp2 := by
    refine ⟨S2.wf, o3, nd3, fun b hb => ?_, S2.z, S2.zB, S2.f, S2.fr, S2.pn⟩
    rcases sub3 b hb with z | z
    · exact S2.out b z
    · rcases List.mem_cons.mp z with z | z
      · subst z; exact ⟨h1, h2, h3⟩
      · obtain ⟨r1, r2, r3, _⟩ := ap1.1 b (List.mem_cons_of_mem _ (sg b z))
        exact ⟨r1, r2, r3⟩
  refine ⟨a, vs, v, gv, fp2, e1, ha, hl, hv, S3, q2.upd hagv, ⟨fun b hb => ?_, n2⟩⟩
  obtain ⟨r1, r2, r3, r4⟩ := ap1.1 b (List.mem_cons_of_mem _ (q4 b hb))
  refine ⟨r1, r2, r3, fun z => ?_⟩
  rcases sub3 b z with y | y
  · exact r4 y
  · rcases List.mem_cons.mp y with y | y
    · subst y; exact hagv hb
    · exact n3 b y b hb rfl
end
section
variable {X : Cx} {e : Expr} {pin n i : Nat} {fe : FE} {f : FM} {x : Str} {pos p apos cpos : Pos}
/-- x.pop(j) -/
theorem dm_popAt (i n : Nat) (he : DE X B e (.own 0) fe) (hN : NameOk X i x := by exact ⟨rfl, by first | exact Or.inl rfl | exact Or.inr (Or.inl rfl) | exact Or.inr (Or.inr rfl), by decide, by decide⟩) (hb : BmOk X (.Name x p) "pop" apos e [] cpos := by exact ⟨rfl, rfl, rfl, rfl, rfl⟩) :
    DM X B (.Call (.Attribute (.Name x p) "pop" apos) [e] [] cpos) pin (.own n) (fun ρ R => ownLst ρ i n (fun _ => True) ∧ fe ρ fun j => ∃ j', j = .int j' ∧ -(2 ^ 63) ≤ j' ∧ j' < 2 ^ 63 ∧ ownLst ρ i n fun ds => ∃ k d, ixN ds.length j' = some k ∧ ds[k]? = some d ∧ R d (ρ.set i (some (n + 1, .lst (ds.eraseIdx k))))) :=
  PE.imp (pe_bm PySem.F.plainAttrs_list PySem.F.slot_list_pop PySem.F.type_list_pop mt_popAt (pe_var hN.1 hN.2 hN.3 hN.4) (pa_cons he pa_nil hb.4) hb.1 hb.2 hb.3 hb.4 hb.5) fun σ H Q ⟨Pn, Z0, F0, F, ρ, fp, R, hpl, S, ⟨h0, hf⟩, k⟩ => by
    obtain ⟨ds0, e0, _⟩ := h0.inv
    obtain ⟨a, vs, g, h1, h2, h3, h4, h5, h6, kk⟩ := S.lst e0
    refine ⟨_, h1, .inl ⟨rfl, _, SqL.of h2⟩, F, ρ, fp, _, S.base, hf, fun F' H' w j fj s hw oj nj ⟨j', ej, l1, l2, hR⟩ => ?_⟩
    subst ej
    obtain ⟨rfl, _⟩ := hw.int
    obtain ⟨ds, e1, kx, d, hk, hd, hR⟩ := hR.inv
    have S' := S.step s fun a h => (by cases h)
    obtain ⟨a', vs', v, f, fp', q1, q2, q3, q4, q5, q6, q7⟩ := S'.popped e1 hd
    rw [h1] at q1
    cases q1
    exact ⟨a, vs', j', kx, v, rfl, rfl, q2, l1, l2, by rw [q3]; exact seqIx hk, q4, k F' _ _ fp' v d f q5 q6 q7 hR⟩
/-- [e] -/
theorem dm_lst1 (n : Nat) (he : DM X B e pin (.own n) f) (hs : starEach [e] X.env = (false, eval e X.env) :: starEach [] X.env := by rfl) : DM X B (.List [e] pos) pin (.own (n + 1)) (fun ρ R => f ρ fun d ρ' => R (.lst [d]) ρ') :=
  PE.imp (pe_lst (pa_cons he pa_nil hs)) fun σ H Q ⟨Pn, Z0, F0, F, ρ, fp, R, hpl, S, hf, k⟩ => by
    refine ⟨Pn, Z0, F0, F, ρ, fp, _, hpl, S, hf, fun F' H' ρ' fp' v d f' S' hv ap hR => ?_⟩
    refine ⟨by show 1 ≤ sizeLine; decide, fun z hz => ?_⟩
    have hv : Own X.K F' H' n v d f' := hv
    have S2 := S'.step (Step.laid (A := []) S'.wf hz (o := .lst [v]) rfl) fun a h => (by cases h)
    have hzf : z ∉ f' := fun h => by obtain ⟨o, e, _⟩ := hv.there z h; rw [hz] at e; cases e
    refine k F' _ ρ' fp' (.ref z) (.lst [d]) (z :: f') S2 ⟨z, [v], f', rfl, upd_same, rfl, OwnL.one (hv.upd hzf)⟩ ⟨fun a ha => ?_, List.nodup_cons.mpr ⟨hzf, ap.2⟩⟩ hR
    rcases List.mem_cons.mp ha with y | y
    · subst y
      refine ⟨F_none S'.wf hz, S'.wf.notB hz, ?_, fun hm => ?_⟩
      · cases q : Z0 a with
        | none => rfl
        | some o => rw [S'.z a o q] at hz; cases hz
      · obtain ⟨o, e, _⟩ := S'.own.there a hm
        rw [hz] at e; cases e
    · exact ap.1 a y
/-- targets = e, what e gives may be read -/
theorem ds_asg {tg : Expr} {mr : Mode} {t : D → Env → Option Env} (he : DM X B e pin (.own 0) f) (hg : DG X pin tg t) (hs : swapsWithSole [tg] e pos.line X.env = pure false := by rfl) (hw : swappedStores [tg] e X.env = pure none := by rfl)
    (h1 : (assignEach [tg] X.env).map (·.2) = [assign tg X.env] := by rfl) : DS X B (.Assign [tg] e pos) pin mr (fun E ρ => f ρ fun d ρ' => ∃ ρ2, t d ρ' = some ρ2 ∧ E.nx ρ2) := by
  obtain ⟨g, pg, kg⟩ := hg.ok
  exact PS.imp (ps_asg he pg hs hw h1) fun Dn σ H ⟨Pn, Z0, F0, F, ρ, fp, E, hpl, S, hf, L⟩ => ⟨Pn, Z0, F0, F, ρ, fp, _, hpl, S, hf, fun F' H' ρ' fp' v d f' S' hv ap ⟨ρ2, e2, hR⟩ => by
    obtain ⟨hv, _⟩ := (show Own X.K F' H' 0 v d f' from hv)
    exact kg B Pn Z0 F0 F' H' σ ρ' ρ2 fp' v d hpl S' hv e2 _ fun σ' fp2 S2 => L.nx F' H' σ' ρ2 fp2 S2 hR⟩
end
end GK

namespace GK
open PySem PySem.Spec PyProof.Rows L2

/-! ### defs with defaults, calls with keywords -/
section
variable {P : Program} {w : World} {K : PySem.W.Frag} {mg : Str → Option Value} {base : Heap}
/-- .. with defaults -/
theorem FunD_okD {x qual : Str} {st : Stmt} {dvs : List V} {kws : List (Str × V)} {f : Addr} {fd : FuncData} {N ps : List Str} {k : Nat} {m : Mode} {W : BSpec} (F : FunD K x qual (defArgs st) (defBody st) (defScope st) dvs kws f fd) (S : FnScope N ps (defScope st)) (len : ∀ B ds R, W B ds R → ds.length = ps.length)
    (hbody : ∀ (B : List Addr) (cdv : Value) (A : Around) (outer : List PySem.Env) (s : Shared) (H : Hp) (E : XK), Room k (A.deeper (envOfC qual (defScope st) s.heap.objs.size f cdv)) →
      ∃ g, DSs (cxOf CX0 P w K mg base N qual (defScope st) f cdv A outer s H E).nox B (defBody st) 0 m g ∧ ∀ ds R, W B ds R → g (DEnds.fn R) (startE N ds)) : FnOk P w K mg base CX0 (k + 1) f fd ps (spD K m W) := by
  refine F.ok S (fun vs H Q E ⟨B, F, ds, R, w, r, hW, k⟩ => by rw [r.length]; exact len B ds R hW) fun cdv A outer s H vs Q E hr ⟨B, F, ds, R, w, r, hW, k⟩ => ?_
  obtain ⟨g, hg, hq⟩ := hbody B cdv A outer s H E hr
  refine ⟨_, hg.nox, [], prot B [] H, F, F, startE N ds, [], DEnds.fn R, rfl, ⟨w, ?_, List.nodup_nil, fun a h => (by cases h), prot_same, fun a h => prot_in (.inr h), fun _ _ h => h, fun a u h => .inl h, fun i v e => (by simp at e)⟩, hq ds R hW, ?_⟩
  · rw [start_eq]
    unfold startE
    rw [r.length]
    exact ownE_start _ r
  have back : ∀ {F' H' : Hp} {σ' : L2.St} {ρ' : Env} {fp' : List Addr}, StOk K B [] (prot B [] H) F F' H' σ' ρ' fp' → Step B [] F H F' H' := fun {F' H' σ' ρ' fp'} T =>
    ⟨fun a o hb e => T.z a o (by rw [prot_out (by simp) hb]; exact e), T.f, fun a u e => by
      rcases T.fr a u e with z | z | z
      · exact .inl z
      · right; left
        by_cases hb : a ∈ B
        · have := T.wf.outB hb
          rw [this] at e; cases e
        · rw [prot_out (by simp) hb] at z; exact z
      · exact .inr (.inr (.inl z)), T.wf⟩
  exact ⟨fun F' H' σ' ρ' fp' T h => k F' H' .non .non [] (back T) (Val.atom rfl fun _ => .non) (fun a h => (by cases h)) List.nodup_nil h,
    fun F' H' σ' ρ' fp' v d f T hv ap h => k F' H' v d f (back T) hv (fun a ha => by
      obtain ⟨h1, h2, h3, h4⟩ := ap.1 a ha
      refine ⟨.inr ?_, h1, h2⟩
      rw [prot_out (by simp) h2] at h3; exact h3) ap.2 h,
    fun _ _ _ _ _ _ h => h.elim, fun _ _ _ _ _ _ h => h.elim⟩
theorem FunD_okM {x qual : Str} {st : Stmt} {dvs : List V} {kws : List (Str × V)} {fa : Addr} {fd : FuncData} {N ps : List Str} {k n : Nat} {m : Mode} {W : FSpecM} (F : FunD K x qual (defArgs st) (defBody st) (defScope st) dvs kws fa fd) (S : FnScope N ps (defScope st)) (len : ∀ s ds R, W s ds R → ds.length + 1 = ps.length)
    (hbody : ∀ (B : List Addr) (cdv : Value) (A : Around) (outer : List PySem.Env) (s : Shared) (H : Hp) (E : XK), Room k (A.deeper (envOfC qual (defScope st) s.heap.objs.size fa cdv)) →
      ∃ g, DSs (cxOf CX0 P w K mg base N qual (defScope st) fa cdv A outer s H E).nox B (defBody st) 1 m g ∧ ∀ s ds R, W s ds R → g (DEnds.meth n R) (some (n, s) :: (envOf ds ++ List.replicate (N.length - (ds.length + 1)) none))) : FnOk P w K mg base CX0 (k + 1) fa fd ps (spM K n m W) := by
  refine F.ok S (fun vs H Q E ⟨B, F, v, ws, s, ds, f, R, e, w, o, a, r, hW, k⟩ => by rw [e, List.length_cons, r.length]; exact len s ds R hW) fun cdv A outer sh H vs Q E hr ⟨B, F, v, ws, s, ds, f, R, ev, w, ho, ⟨ha, hn⟩, r, hW, k⟩ => ?_
  obtain ⟨g, hg, hq⟩ := hbody B cdv A outer sh H E hr
  subst ev
  refine ⟨_, hg.nox, [v], prot B f H, F, F, _, f, DEnds.meth n R, rfl, ⟨w, ?_, hn, fun a h => ⟨(ha a h).1, (ha a h).2, prot_in (.inl h)⟩, prot_same, fun a h => prot_in (.inr h), fun _ _ h => h, fun a u h => .inl h, fun i u e => ?_⟩, hq s ds R hW, ?_⟩
  · rw [start_eq, List.length_cons, r.length]
    exact ⟨f, [], (List.append_nil f).symm, ho, ownE_start _ r⟩
  · cases i with
    | zero =>
      have e' : v = u := Option.some.inj e
      subst e'; rfl
    | succ i => simp at e
  have fin : ∀ {F' H' : Hp} {σ' : L2.St} {ρ' : Env} {fp' : List Addr} {s' : D} {r : V} {d : D} {fr : List Addr}, StOk K B [v] (prot B f H) F F' H' σ' ρ' fp' → slot ρ' 0 = some (n, s') → Val K m B F' H' r d fr → Apart B (prot B f H) F' fp' fr → R d s' → Q r H' := fun {F' H' σ' ρ' fp' s' r d fr} T e hv ap hR => by
    obtain ⟨v', f', fp2, e1, e2, T2, ap2, sub⟩ := T.take e
    have e3 := T.pn 0 v rfl
    rw [e3] at e1
    cases e1
    refine k F' H' r d fr s' f' T.stepM e2 hv (fun a ha => ?_) ?_ hR
    · have key : F' a = none ∧ a ∉ B ∧ prot B f H a = none := by
        rcases List.mem_append.mp ha with z | z
        · obtain ⟨h1, h2, h3, _⟩ := ap2.1 a z; exact ⟨h1, h2, h3⟩
        · obtain ⟨h1, h2, h3, _⟩ := ap.1 a z; exact ⟨h1, h2, h3⟩
      refine ⟨?_, key.1, key.2.1⟩
      by_cases hf : a ∈ f
      · exact .inl hf
      · right
        have := key.2.2
        rw [prot_out hf key.2.1] at this; exact this
    · refine List.nodup_append.mpr ⟨ap2.2, ap.2, fun a ha b hb e => ?_⟩
      subst e
      exact (ap.1 a hb).2.2.2 (sub a (List.mem_append_right _ ha))
  exact ⟨fun F' H' σ' ρ' fp' T ⟨s', e, h⟩ => fin T e (Val.atom (d := .non) (v := .non) rfl fun _ => .non) .nil h, fun F' H' σ' ρ' fp' v d f T hv ap ⟨s', e, h⟩ => fin T e hv ap h,
    fun _ _ _ _ _ _ h => h.elim, fun _ _ _ _ _ _ h => h.elim⟩
end
section
variable {K : PySem.W.Frag} {x qual : Str} {params : Arguments} {body : List Stmt} {scope : Scope} {kws : List (Str × V)} {f : Addr} {fd : FuncData} {ps : List Str}
/-- keyword-only defaults alone: some are written, ms are those that lack -/
theorem kbinds0 (F : FunD K x qual params body scope [] kws f fd) (n : Nat) (ks : List Str) (ms : List (Str × V)) (g : {α : Type} → List α → List α → List α → List α) (hk : kws ≠ []) (hms : ∀ q ∈ ms, q ∈ kws)
    (hrel : ∀ {vs mz zs : List V} {us mv ws : List Value}, Vals vs us → Vals mz mv → Vals zs ws → Vals (g vs mz zs) (g us mv ws))
    (h : ∀ (Da : Addr) (doc pm : Value) (an : Option Addr) (cdv ct : Value) (us mv ws : List Value), us.length = n → mv.length = ms.length → ws.length = ks.length →
      KwChain Da ((ms.map (·.1)).zip mv) (bindArgs (PySem.W.fnOf x qual params body scope .none (.ref Da) doc pm an cdv ct) ⟨us, ks.zip ws⟩) (ps.zip (g us mv ws))) :
    ∃ mv : List Value, KBn K fd ps n ks (fun us ws => g us mv ws) (fun vs zs => g vs (ms.map (·.2)) zs) := by
  obtain ⟨oc, od, dV, kV, doc, pm, an, cdv, ct, osl, rfl, lk, hcd, hD, hK⟩ := F.ex
  rcases hD with ⟨_, rfl⟩ | ⟨e, _⟩
  · rcases hK with e | ⟨Da, rfl, hq⟩
    · exact absurd e hk
    · obtain ⟨mv, hl, rk, hks⟩ := kwd_vals (ms := ms) fun q hm => hq q (hms q hm)
      exact ⟨mv, ⟨fun s us ws X l1 l2 => BindsTo.of_looks fun M => KwChain.looks X hks (h Da doc pm an cdv ct us mv ws l1 hl l2), fun r1 r2 => hrel r1 rk r2⟩⟩
  · exact absurd rfl e
end
theorem PK.imp {X : Cx} {e : List Keyword} {t t' : TA} (h : PK X e t) (k : ∀ σ H Q, t' σ H Q → t σ H Q) : PK X e t' := ⟨fun p pins s σ H Q I q => h.run p pins s σ H Q I (k σ H Q q)⟩
abbrev DKw (X : Cx) (B : List Addr) (kws : List Keyword) (ms : List Mode) (f : FA) : Prop := PK X kws (tDA X.K B ms f)
section
variable {X : Cx} {e : Expr} {es : List Expr} {kws : List Keyword} {m : Mode} {ms ms' : List Mode} {f : FE} {fs fk : FA} {pos p kpos : Pos} {nm : Option Str}
theorem dk_nil : DKw X B [] [] fNil := PK.imp pk_nil fun σ H Q ⟨F, ρ, fp, R, S, hf, k⟩ => k F H [] [] [] (Step.refl S.wf) rfl (fun a h => (by cases h)) List.nodup_nil hf
theorem tDA_cons {K : PySem.W.Frag} {σ : L2.St} {H : Hp} {Q : List V → Hp → Prop} (h : tDA K B (m :: ms) (fCons f fs) σ H Q) : tCons (tD K B m f) (tDA K B ms fs) σ H Q := by
  obtain ⟨F, ρ, fp, R, S, hf, k⟩ := h
  refine ⟨F, ρ, fp, _, S, hf, fun F1 H1 v1 d1 fp1 s1 hv1 o1 n1 hg1 => ?_⟩
  refine ⟨F1, ρ, fp, _, S.step s1 (fun a ha => by cases ha), hg1, fun F2 H2 v2 d2 fp2 s2 hv2 o2 n2 hg2 => ?_⟩
  have t1 := hv1.there
  have nn : ∀ a ∈ fp1, F2 a = none := fun a ha => by
    obtain ⟨o, e, mu⟩ := t1 a ha
    exact s2.out e mu (o1 a ha).2.2 (o1 a ha).2.1 fun z => by cases z
  refine k F2 H2 (v1 :: v2) (d1 :: d2) (fp1 ++ fp2) (s1.trans s2 fun a ha => by cases ha) ⟨fp1, fp2, rfl, hv1.step s2 fun a ha => (o1 a ha).2.2, hv2⟩ (fun a ha => ?_) ?_ hg2
  · rcases List.mem_append.mp ha with z | z
    · exact ⟨(o1 a z).1, nn a z, (o1 a z).2.2⟩
    · exact ⟨.inr (s1.new (o2 a z).2.2 ((o2 a z).1.elim (fun z => by cases z) id)), (o2 a z).2⟩
  · refine List.nodup_append.mpr ⟨n1, n2, fun a ha b hb e => ?_⟩
    subst e
    obtain ⟨o, e, mu⟩ := t1 a ha
    rcases (o2 a hb).1 with z | z
    · cases z
    · rw [e] at z; cases z
theorem dk_cons (h : DE X B e m f) (hr : DKw X B kws ms fk) : DKw X B (⟨nm, e, kpos⟩ :: kws) (m :: ms) (fCons f fk) := PK.imp (pk_cons h hr) fun _ _ _ q => tDA_cons q
/-- f(e, .., k = v, ..) -/
theorem de_callN {k n : Nat} {fa : Addr} {fd : FuncData} {ps ks : List Str} {W : BSpec} {x : Str} {g : List Value → List Value → List Value} {gV : List V → List V → List V} (gD : List D → List D → List D)
    (F : FnOk X.prog X.w X.K X.mg X.base CX0 k fa fd ps (spD X.K m W)) (hr : Room k X.A) (hg : Gl X x) (hm : X.mg x = some (.ref fa)) (hk : PySem.W.keepIn X.K (.ref fa) = true) (hb : KBn X.K fd ps n ks g gV)
    (hgd : ∀ F vs xs zs ys, RL X.K F vs xs → RL X.K F zs ys → RL X.K F (gV vs zs) (gD xs ys)) (ha : DA X B (e :: es) ms fs) (hkw : DKw X B kws ms' fk) (hms : ∀ m ∈ ms, m = .own 0 := by simp) (hms' : ∀ m ∈ ms', m = .own 0 := by simp) (hn : (e :: es).length = n := by rfl) (hn' : kws.length = ks.length := by rfl)
    (hl : ms.length = (e :: es).length := by rfl) (hl' : ms'.length = kws.length := by rfl)
    (hall : (backToKw pos (keywordEach kws X.env)).all (·.1.isSome) = true := by rfl) (hks : (backToKw pos (keywordEach kws X.env)).filterMap (·.1) = ks := by rfl)
    (hdb : (x == ("__debug__" : Str)) = false := by decide) (he : starEach (e :: es) X.env = (false, eval e X.env) :: starEach es X.env := by rfl)
    (hpl : ((backTo pos (starEach (e :: es) X.env)).any (·.1) || (backToKw pos (keywordEach kws X.env)).any (·.1.isNone)) = false := by rfl) :
    DE X B (.Call (.Name x p) (e :: es) kws pos) m (fun ρ R => fs ρ fun xs => fk ρ fun ys => W B (gD xs ys) R) :=
  PE.imp (pe_callN F hr hg hm hk hb pass0 ha hkw hall hks hdb he hpl) fun σ H Q ⟨F, ρ, fp, R, S, hf, k⟩ => by
    have len : ∀ {ms : List Mode} {vs : List V} {ds : List D} {fp : List Addr} {F H : Hp}, ValL X.K B F H ms vs ds fp → vs.length = ms.length := fun {ms vs ds fp F H} h => by
      induction ms generalizing vs ds fp with
      | nil =>
        cases vs with
        | nil => rfl
        | cons v vs => cases h
      | cons m ms ih =>
        cases vs with
        | nil => cases h
        | cons v vs =>
          cases ds with
          | nil => cases h
          | cons d ds =>
            obtain ⟨f1, f2, e, h, t⟩ := h
            rw [List.length_cons, List.length_cons, ih t]
    refine ⟨F, ρ, fp, _, S, hf, fun F1 H1 vs xs fp1 s1 hv o1 n1 hg1 => ⟨F1, ρ, fp, _, S.step s1 (fun a h => by cases h), hg1, fun F2 H2 zs ys fp2 s2 hw o2 n2 hW => ⟨?_, ?_, ?_⟩⟩⟩
    · rw [len hv, hl, hn]
    · rw [len hw, hl', hn']
    · exact call_all s2.wf (hgd F2 _ _ _ _ ((hv.rl0 hms).mono s2.fs) (hw.rl0 hms')) hW ((k.after s1 (A1 := fp1) fun a ha => (o1 a ha).1).after (s2.weak fun a h => (by cases h)) (A1 := []) fun a h => (by cases h))
end
/-! ### tuples of targets in a comprehension -/
section
variable {X : Cx} {x : Str} {pos : Pos}
structure DGsc (X : Cx) (tgs : List Expr) (vs is : List Nat) : Prop where
  ok : ∃ g : TGs, (∀ (s : Shared) (H : Hp) (scope : Scope) (C : Addr) (cl : List (Str × Addr)) (fp : List Addr), (∀ v ∈ vs, ∃ x, X.N[v]? = some x ∧ ∀ C cl, (compEnvC scope cl C X.env).scope.names.lookup x = some .local) → PGs (X.blk s H scope (compEnvC scope cl C X.env) fp) tgs g) ∧
    ∀ (B : List Addr) (F H : Hp) (σ0 σ : L2.St) (ρ ρ' : Env) (fp : List Addr) (ws : List V) (ds : List D), L2.wipe σ vs = L2.wipe σ0 vs → StOk X.K B [] noH noH F H σ ρ fp → RL X.K F ws ds → tgL is ds ρ = some ρ' →
      ∀ Q : L2.St → Hp → Prop, (∀ σ' fp', StOk X.K B [] noH noH F H σ' ρ' fp' → L2.wipe σ' vs = L2.wipe σ0 vs → Q σ' H) → g ws σ H Q
theorem dgsc_nil {vs : List Nat} : DGsc X [] vs [] := ⟨gNil, fun _ _ _ _ _ _ _ => pgs_nil, fun B F H σ0 σ ρ ρ' fp ws ds hw S r e Q k => by
  cases r with
  | nil => cases e; exact ⟨rfl, k σ fp S hw⟩
  | cons h t => cases e⟩
theorem wipe_set {σ : L2.St} {i : Nat} {o : Option V} : ∀ {vs : List Nat}, i ∈ vs → L2.wipe (σ.set i o) vs = L2.wipe σ vs
  | v :: vs, h => by
    show (L2.wipe (σ.set i o) vs).set v none = (L2.wipe σ vs).set v none
    by_cases e : i ∈ vs
    · rw [wipe_set e]
    · have hv : i = v := by rcases List.mem_cons.mp h with z | z; exact z; exact absurd z e
      subst hv
      have comm : ∀ (us : List Nat) (σ : L2.St), i ∉ us → L2.wipe (σ.set i o) us = (L2.wipe σ us).set i o := by
        intro us
        induction us with
        | nil => intro σ _; rfl
        | cons u us ih =>
          intro σ hu
          show (L2.wipe (σ.set i o) us).set u none = ((L2.wipe σ us).set u none).set i o
          rw [ih σ fun z => hu (List.mem_cons_of_mem _ z)]
          exact List.set_comm _ _ fun z => hu (by rw [z]; exact List.mem_cons_self)
      rw [comm vs σ e, List.set_set]
theorem dgsc_cons {vs is : List Nat} {es : List Expr} (i : Nat) (hN : X.N.Nodup) (hi : X.N[i]? = some x) (hv : i ∈ vs) (h : DGsc X es vs is)
    (hs : ∀ (env : PySem.Env), (assignEach (.Name x pos :: es) env).map (·.2) = assign (.Name x pos) env :: (assignEach es env).map (·.2) := by intro _; rfl) : DGsc X (.Name x pos :: es) vs (i :: is) := by
  obtain ⟨g, pg, kg⟩ := h.ok
  refine ⟨gCons (gName i) g, fun s H scope C cl fp hl => ?_, fun B F H σ0 σ ρ ρ' fp ws ds hw S r e Q k => ?_⟩
  · obtain ⟨y, e, hy⟩ := hl i hv
    rw [hi] at e; cases e
    exact pgs_cons (pg_name hN hi (.inl (hy C cl)) (.inr (hy C cl))) (pg s H scope C cl fp hl) (hs _)
  · cases r with
    | nil => cases e
    | cons h t =>
      unfold tgL at e
      split at e
      · rename_i hi'
        obtain ⟨fp', S'⟩ := S.set (n := 0) (f := []) (i := i) ⟨h, rfl⟩ .nil hi' (Nat.zero_le _)
        exact ⟨_, _, rfl, kg B F H σ0 _ _ ρ' fp' _ _ (by rw [wipe_set hv]; exact hw) S' t e Q k⟩
      · cases e
theorem wipe_sub {σ : L2.St} {vs : List Nat} : ∀ {ws : List Nat}, (∀ w ∈ ws, w ∈ vs) → L2.wipe (L2.wipe σ ws) vs = L2.wipe σ vs
  | [], _ => rfl
  | w :: ws, h => by
    show L2.wipe ((L2.wipe σ ws).set w none) vs = _
    rw [wipe_set (h w List.mem_cons_self), wipe_sub fun x hx => h x (List.mem_cons_of_mem _ hx)]
theorem dgc_tup {vs is : List Nat} {es : List Expr} {k : Nat} (hc : X.calm = true) (h : DGsc X es vs is) (hn : ∀ env : PySem.Env, (assignEach es env).length = is.length := by intro _; rfl) (hst : ∀ env : PySem.Env, (assignEach es env).findIdx? (·.1) = none := by intro _; rfl) : DGc X (.Tuple es k pos) vs (tgT is) := by
  obtain ⟨g, pg, kg⟩ := h.ok
  refine ⟨L2.gTup X.K is.length g, fun s H scope C cl fp hl => pg_tup hc (pg s H scope C cl fp hl) (hn _) (hst _), fun B F H σ ρ ρ' fp v d S r e Q k => ?_⟩
  unfold tgT at e
  cases d <;> try (cases e; done)
  obtain ⟨a, ws, rfl, ht, rl⟩ := r.tupI
  refine ⟨a, ws, rfl, tup_sub S.wf ht, by rw [rl.length]; exact tgL_len e, ?_⟩
  exact kg B F H (L2.wipe σ vs) (L2.wipe σ vs) ρ ρ' fp ws _ rfl S rl e Q fun σ' fp' S' hw => k σ' fp' S' (by rw [hw]; exact wipe_sub fun _ h => h)
end
end GK

namespace GK
open PySem PySem.Spec PyProof.Rows L2

/-! ### the law's bag -/
section
variable {K : PySem.W.Frag} {B A : List Addr} {F H : Hp}
theorem bag_upd {b c l : Addr} {ts : List Addr} {cells left left' : List Int} {turn turn' : Int} (w : WF B F H) (eB : B = b :: c :: l :: ts) (ht : ∀ t ∈ ts, ∃ o xs, H t = some (.frz o (.lst xs))) (h1 : H b = some (.lst [.ref c, .ref l, .int turn])) (h2 : H c = some (.lst (cells.map V.int)))
    (h3 : H l = some (.lst (left.map V.int))) (n1 : b ≠ c) (n2 : b ≠ l) (n3 : c ≠ l) (l0 : 0 < cells.length) (l63 : cells.length ≤ 63) {H' : Hp} (hs : ∀ a, a ≠ b → a ≠ l → H' a = H a) (k1 : H' b = some (.lst [.ref c, .ref l, .int turn'])) (t0 : 0 ≤ turn')
    (k3 : H' l = some (.lst (left'.map V.int))) (le : left'.length = cells.length) : Step B A F H F H' := by
  have out : ∀ a, a ∉ B → H' a = H a := fun a ha => hs a (fun z => ha (by rw [eB, z]; simp)) fun z => ha (by rw [eB, z]; simp)
  refine ⟨fun a o ha e => by rw [out a ha]; exact e, fun _ _ h => h, fun _ _ h => .inl h, ⟨fun a u e => ?_, fun a o u ha e => w.lock a o u ha (by rw [← out a ha]; exact e), .inr ⟨b, c, l, ts, cells, left', turn', eB, fun t hm => ?_, k1, by rw [hs c n1.symm n3]; exact h2, k3, n1, n2, n3, t0, l0, l63, le⟩⟩⟩
  · obtain ⟨hb, x, ex, er⟩ := rdH_some (w.sub a u e)
    exact rdH_of hb (by rw [out a hb]; exact ex) er
  · obtain ⟨o, xs, e⟩ := ht t hm
    refine ⟨o, xs, ?_⟩
    rw [hs t (fun z => ?_) fun z => ?_]
    · exact e
    · subst z; rw [h1] at e; cases e
    · subst z; rw [h3] at e; cases e
/-- _law_draw(bag, size): some number from 0 to size - 1 -/
def wDraw : BSpec := fun B ds R => ∃ b size, B.head? = some b ∧ ds = [.raw (.ref b), .int size] ∧ 0 < size ∧ size.natAbs.log2 < 9000 ∧ ∀ r : Int, 0 ≤ r → r < size → R (.int r)
theorem atI_ints {ns : List Int} {i : Int} (h0 : 0 ≤ i) (h1 : i < ns.length) : ∃ n, atI (ns.map V.int) i = some (.int n) := by
  have e : i.toNat < ns.length := by omega
  refine ⟨ns[i.toNat], ?_⟩
  unfold atI ixN
  rw [if_pos h0, if_pos (by rw [List.length_map]; exact h1)]
  show (ns.map V.int)[i.toNat]? = _
  rw [List.getElem?_map, List.getElem?_eq_getElem e]; rfl
theorem atI_at {ns : List Int} {i : Int} {v : V} (h : atI (ns.map V.int) i = some v) (h0 : 0 ≤ i) : ∃ n k, v = .int n ∧ ixN (ns.map V.int).length i = some k ∧ k < ns.length := by
  unfold atI at h
  cases q : ixN (ns.map V.int).length i with
  | none => rw [q] at h; cases h
  | some k =>
    rw [q] at h
    have h : (ns.map V.int)[k]? = some v := h
    rw [List.getElem?_map] at h
    cases e : ns[k]? with
    | none => rw [e] at h; cases h
    | some n =>
      rw [e] at h
      cases h
      exact ⟨n, k, rfl, rfl, (List.getElem?_eq_some_iff.mp e).1⟩
end
end GK

namespace GK
open PySem PySem.Spec PyProof.Rows L2
/-- a comprehension's block, its names given as they stand -/
theorem blk_of (N : List Str) (sc : Scope) {scope : Scope} {own : List (Str × Nat)} (h0 : scope.kind = .function) (h1 : ∀ y ∈ scope.names, scope.names.lookup y.1 = some y.2) (h2 : ∀ p ∈ own, N[p.2]? = some p.1)
    (h3 : ∀ y ∈ scope.names, y.2 = .free → sc.names.lookup y.1 = some .cell ∨ sc.names.lookup y.1 = some .free) (h4 : ∀ y ∈ scope.names, y.2 = .local ∨ y.2 = .cell → y.1 ∈ own.map (·.1) ∨ y.1 ∉ N) : BlkOk N sc scope own := ⟨h0, h1, h2, h3, h4⟩
theorem cut_ints (ns : List Int) (lo hi : Option Int) : ∃ ms : List Int, cutV (ns.map V.int) lo hi = ms.map V.int ∧ ms.length ≤ ns.length := by
  refine ⟨(ns.drop (HT.sIx ns.length 0 lo)).take (HT.sIx ns.length ns.length hi - HT.sIx ns.length 0 lo), ?_, ?_⟩
  · unfold cutV
    rw [List.length_map, List.map_take, List.map_drop]
  · rw [List.length_take, List.length_drop]; omega
/-- _law_bag(script): two new lists of as many numbers, one at least, and the turn -/
def spBag (K : PySem.W.Frag) : Sp := fun vs H Q _ => ∃ (a : Addr) (ns : List Int), vs = [.ref a] ∧ SqL K H a (ns.map V.int) ∧ ns.length ≤ 63 ∧
  ∀ (b c l : Addr) (cells left : List Int) (H' : Hp), H b = none → b ≠ c → b ≠ l → c ≠ l → 0 < cells.length → cells.length ≤ 63 → left.length = cells.length → (∀ x o, H x = some o → H' x = some o) → (∀ x o u, H' x = some (.frz o u) → H x = some (.frz o u)) →
    H' b = some (.lst [.ref c, .ref l, .int 0]) → H' c = some (.lst (cells.map V.int)) → H' l = some (.lst (left.map V.int)) → Q (.ref b) H'
/-- what stands, and nothing new is locked -/
def Ext (H H' : Hp) : Prop := (∀ x o, H x = some o → H' x = some o) ∧ ∀ x o u, H' x = some (.frz o u) → H x = some (.frz o u)
theorem Ext.refl {H : Hp} : Ext H H := ⟨fun _ _ h => h, fun _ _ _ h => h⟩
theorem Ext.put {H H' : Hp} (e : Ext H H') {p : Addr} {xs : List V} (hp : H p = none) : Ext H (upd H' p (.lst xs)) :=
  ⟨fun x o h => by rw [upd_ne (ne_of_none h hp)]; exact e.1 x o h, fun x o u h => by
    by_cases c : x = p
    · subst c; rw [upd_same] at h; cases h
    · rw [upd_ne c] at h; exact e.2 x o u h⟩
theorem Ext.none {H H' : Hp} (e : Ext H H') {p : Addr} (h : H' p = none) : H p = none := by
  cases q : H p with
  | none => rfl
  | some o => rw [e.1 p o q] at h; cases h
theorem SqL.ext {K : PySem.W.Frag} {H H' : Hp} (e : ∀ x o, H x = some o → H' x = some o) {a : Addr} {xs : List V} (h : SqL K H a xs) : SqL K H' a xs := by
  rcases h with h | h
  · rcases h with h | ⟨o, h⟩
    · exact .inl (.inl (e _ _ h))
    · exact .inl (.inr ⟨o, e _ _ h⟩)
  · exact .inr h
/-! ### the law itself: behind its first line the bag stands -/
def isLl : Option HO → Bool
  | some (.frz _ (.lst _)) => true
  | _ => false
theorem isLl_inv {o : Option HO} (h : isLl o = true) : ∃ ob xs, o = some (.frz ob (.lst xs)) := by
  unfold isLl at h
  split at h
  · exact ⟨_, _, rfl⟩
  · cases h
def lawEnds : DEnds := { nx := fun _ => False, rt := fun d _ => d = .bl true }
/-- the rest of the law, for each place of the bag -/
theorem law_rest {X : Cx} {rest : List Stmt} {g : List Addr → FS} (h : ∀ B, DSs X B rest 0 (.own 0) (g B)) : PSs X rest (fun D σ H => ∀ N, (∀ p, N ≤ p → H p = Option.none) → ∃ B, tDS X.K B 0 (.own 0) (g B) D σ H) :=
  ⟨fun pins s σ H D I q => by
    obtain ⟨B, q⟩ := q s.heap.objs.size fun p hp => I.hok.fresh hp
    exact (h B).run pins s σ H D I q⟩
theorem law_start {K : PySem.W.Frag} {g : List Addr → FS} {H H' : Hp} {a b c l : Addr} {cells left : List Int} {n N : Nat} {D : Ends} (hO : Only H) (hN : ∀ p, N ≤ p → H' p = Option.none) (nb : H b = Option.none) (n1 : b ≠ c) (n2 : b ≠ l) (n3 : c ≠ l) (l0 : 0 < cells.length) (l63 : cells.length ≤ 63) (le : left.length = cells.length)
    (hlk : ∀ x o u, H' x = some (.frz o u) → H x = some (.frz o u)) (h1 : H' b = some (.lst [.ref c, .ref l, .int 0])) (h2 : H' c = some (.lst (cells.map V.int))) (h3 : H' l = some (.lst (left.map V.int)))
    (hg : ∀ B, B.head? = some b → g B lawEnds (some (0, .raw (.ref a)) :: some (0, .raw (.ref b)) :: List.replicate n Option.none)) (hD : ∀ H2, D.rt (.bl true) H2) :
    ∃ B, tDS K B 0 (.own 0) (g B) D (some (.ref a) :: some (.ref b) :: List.replicate n Option.none) H' := by
  have hts : ∀ t ∈ (List.range N).filter (fun p => isLl (H' p)), ∃ o xs, H' t = some (.frz o (.lst xs)) := fun t ht => isLl_inv (List.mem_filter.mp ht).2
  have hlock : ∀ x o u, x ∉ b :: c :: l :: (List.range N).filter (fun p => isLl (H' p)) → H' x = some (.frz o u) → isDct u := fun x o u hx e => by
    exfalso
    have e0 := hlk x o u e
    rcases hO x with z | ⟨o', xs, z⟩
    · rw [z] at e0; cases e0
    · rw [z] at e0
      cases e0
      have hxN : x < N := by
        apply Nat.lt_of_not_le
        intro hle
        rw [hN x hle] at e; cases e
      exact hx (by
        refine List.mem_cons_of_mem _ (List.mem_cons_of_mem _ (List.mem_cons_of_mem _ (List.mem_filter.mpr ⟨List.mem_range.mpr hxN, ?_⟩)))
        rw [e]; rfl)
  refine ⟨b :: c :: l :: (List.range N).filter (fun p => isLl (H' p)), [], noH, noH, noH, some (0, .raw (.ref a)) :: some (0, .raw (.ref b)) :: List.replicate n Option.none, [], lawEnds, rfl,
    ⟨⟨fun _ _ e => (by cases e), hlock, .inr ⟨b, c, l, _, cells, left, 0, rfl, hts, h1, h2, h3, n1, n2, n3, Int.le_refl 0, l0, l63, le⟩⟩, ⟨[], [], rfl, ⟨.raw _, rfl⟩, [], [], rfl, ⟨.raw _, rfl⟩, ownE_none n⟩, List.nodup_nil, fun a h => (by cases h), fun _ _ e => (by cases e), fun _ _ => rfl, fun _ _ e => (by cases e), fun _ _ e => (by cases e), fun i v e => (by simp at e)⟩, hg _ rfl, ?_⟩
  refine ⟨fun F H σ ρ fp S h => h.elim, fun F H2 σ ρ fp v d f S hv ap h => ?_, fun F H σ ρ fp S h => h.elim, fun F H σ ρ fp S h => h.elim⟩
  have h : d = .bl true := h
  subst h
  obtain ⟨rfl, _⟩ := hv.bl
  exact hD _
/-- the law's promise -/
def spLaw (K : PySem.W.Frag) : Sp := fun vs H Q _ => ∃ (a : Addr) (ns : List Int), vs = [.ref a] ∧ SqL K H a (ns.map V.int) ∧ ns.length ≤ 63 ∧ Only H ∧ ∀ H', Q (.bl true) H'
end GK

namespace GK
open PySem PySem.Spec PyProof.Rows L2

theorem _root_.L2.Room.u {k : Nat} {A : Around} (hr : Room k A) (n : Nat) (h : n ≤ 200 := by decide) : A.units + n < cLine := by have := hr.un; omega
/-- a def that keeps its promise, by its name -/
structure Cal (P : Program) (w : World) (K : PySem.W.Frag) (mg : Str → Option Value) (base : Heap) (x : Str) (k : Nat) (ps : List Str) (m : Mode) (dd : List D) (W : BSpec) : Prop where
  ex : ∃ (f : Addr) (fd : FuncData) (ds : List Value) (dvs : List V), FnOk P w K mg base CX0 k f fd ps (spD K m W) ∧ mg x = some (.ref f) ∧ PySem.W.keepIn K (.ref f) = true ∧ Binds K fd ps ds ∧ Vals dvs ds ∧ Dflt K dvs dd
/-- a method that changes nothing -/
structure CalM (P : Program) (w : World) (K : PySem.W.Frag) (mg : Str → Option Value) (base : Heap) (C : Addr) (mt : Str) (k : Nat) (ps : List Str) (m : Mode) (dd : List D) (W : BSpec) : Prop where
  cl : Cls K C
  ex : ∃ (f : Addr) (fd : FuncData) (ds : List Value) (dvs : List V), FnOk P w K mg base CX0 k f fd ps (spD K m W) ∧ Meth K C mt f ∧ Binds K fd ps ds ∧ Vals dvs ds ∧ Dflt K dvs dd
/-- a class, by its __init__ -/
structure CalK (P : Program) (w : World) (K : PySem.W.Frag) (mg : Str → Option Value) (base : Heap) (x : Str) (C : Addr) (k n : Nat) (ps : List Str) (m : Mode) (dd : List D) (W : FSpecM) : Prop where
  ex : ∃ (f : Addr) (fd : FuncData) (ds : List Value) (dvs : List V), FnOk P w K mg base CX0 k f fd ps (spM K (n + 1) m W) ∧ Mk K C f ∧ mg x = some (.ref C) ∧ Binds K fd ps ds ∧ Vals dvs ds ∧ Dflt K dvs dd
section
variable {X : Cx} {B : List Addr} {k k' n : Nat} {C : Addr} {ps : List Str} {x : Str} {p pos apos : Pos} {e o : Expr} {es : List Expr} {m : Mode} {ms : List Mode} {fs : FA} {fo : FE} {W : BSpec} {dd : List D}
theorem de_C (c : Cal X.prog X.w X.K X.mg X.base x k ps m dd W) (hr : Room k' X.A) (ha : DA X B (e :: es) ms fs) (hk : k ≤ k' := by decide) (hg : Gl X x := by rfl) (hms : ∀ m ∈ ms, m = .own 0 := by simp)
    (hdb : (x == ("__debug__" : Str)) = false := by decide) (he : starEach (e :: es) X.env = (false, eval e X.env) :: starEach es X.env := by rfl) (hpl : (backTo pos (starEach es X.env)).any (·.1) = false := by rfl) :
    DE X B (.Call (.Name x p) (e :: es) [] pos) m (fArgs (fun xs R => W B (xs ++ dd) R) fs) := by
  obtain ⟨f, fd, ds, dvs, F, hm, kp, hb, hd, hdd⟩ := c.ex
  exact de_call F (hr.mono hk) hg hm kp hb hd hdd ha hms hdb he hpl
theorem de_CR (c : Cal X.prog X.w X.K X.mg X.base x k ps (.own n) dd W) (hr : Room k' X.A) (ha : DA X B (e :: es) ms fs) (hk : k ≤ k' := by decide) (hg : Gl X x := by rfl)
    (hdb : (x == ("__debug__" : Str)) = false := by decide) (he : starEach (e :: es) X.env = (false, eval e X.env) :: starEach es X.env := by rfl) (hpl : (backTo pos (starEach es X.env)).any (·.1) = false := by rfl) :
    DE X B (.Call (.Name x p) (e :: es) [] pos) (.own n) (fArgs (fun xs R => W B (xs ++ dd) fun d => flatN n d = true ∧ R d) fs) := by
  obtain ⟨f, fd, ds, dvs, F, hm, kp, hb, hd, hdd⟩ := c.ex
  exact de_callR F (hr.mono hk) hg hm kp hb hd hdd ha hdb he hpl
theorem de_C0 (c : Cal X.prog X.w X.K X.mg X.base x k ps m dd W) (hr : Room k' X.A) (hk : k ≤ k' := by decide) (hg : Gl X x := by rfl) (hdb : (x == ("__debug__" : Str)) = false := by decide) : DE X B (.Call (.Name x p) [] [] pos) m (fun _ R => W B dd R) := by
  obtain ⟨f, fd, ds, dvs, F, hm, kp, hb, hd, hdd⟩ := c.ex
  exact de_call0 F (hr.mono hk) hg hm kp hb hd hdd hdb
theorem de_Cm {mt : Str} (pl : Sem Bool) (c : CalM X.prog X.w X.K X.mg X.base C mt k ps m dd W) (hr : Room k' X.A) (ho : DE X B o (.own 0) fo) (ha : DA X B (e :: es) ms fs) (hk : k ≤ k' := by decide) (hms : ∀ m ∈ ms, m = .own 0 := by simp)
    (hst : starEach (e :: es) X.env = (false, eval e X.env) :: starEach es X.env := by rfl) (hpl : (backTo pos (starEach es X.env)).any (·.1) = false := by rfl)
    (ht : eval (.Call (.Attribute o mt apos) (e :: es) [] pos) X.env = (do
      let ov ← eval o X.env
      standAt apos.atName
      let (f, first) ← holding [ov] (getMethod ov mt pl)
      callWith pos f first (backTo pos (starEach (e :: es) X.env)) (backToKw pos (keywordEach [] X.env))) := by rfl) :
    DE X B (.Call (.Attribute o mt apos) (e :: es) [] pos) m (fun ρ R => fo ρ fun x => isObjD C mt x ∧ fs ρ fun xs => W B (x :: (xs ++ dd)) R) := by
  obtain ⟨f, fd, ds, dvs, F, hm, hb, hd, hdd⟩ := c.ex
  exact de_meth ho c.cl hm F (hr.mono hk) hb hd hdd ha hms hst hpl ht
theorem de_Cm0 {mt : Str} (pl : Sem Bool) (c : CalM X.prog X.w X.K X.mg X.base C mt k ps m dd W) (hr : Room k' X.A) (ho : DE X B o (.own 0) fo) (hk : k ≤ k' := by decide)
    (ht : eval (.Call (.Attribute o mt apos) [] [] pos) X.env = (do
      let ov ← eval o X.env
      standAt apos.atName
      let (f, first) ← holding [ov] (getMethod ov mt pl)
      callWith pos f first (backTo pos (starEach [] X.env)) (backToKw pos (keywordEach [] X.env))) := by rfl) :
    DE X B (.Call (.Attribute o mt apos) [] [] pos) m (fun ρ R => fo ρ fun x => isObjD C mt x ∧ W B (x :: dd) R) := by
  obtain ⟨f, fd, ds, dvs, F, hm, hb, hd, hdd⟩ := c.ex
  exact de_meth0 ho c.cl hm F (hr.mono hk) hb hd hdd ht
theorem de_Ck {W : FSpecM} (c : CalK X.prog X.w X.K X.mg X.base x C k n ps m dd W) (hr : Room k' X.A) (ha : DA X B (e :: es) ms fs) (hk : k + 1 ≤ k' := by decide) (hg : Gl X x := by rfl) (hms : ∀ m ∈ ms, m = .own 0 := by simp)
    (hdb : (x == ("__debug__" : Str)) = false := by decide) (he : starEach (e :: es) X.env = (false, eval e X.env) :: starEach es X.env := by rfl) (hpl : (backTo pos (starEach es X.env)).any (·.1) = false := by rfl) :
    DE X B (.Call (.Name x p) (e :: es) [] pos) (.own (n + 1)) (fArgs (fun xs R => W (.obj C []) (xs ++ dd) fun d s => d = .non ∧ R s) fs) := by
  obtain ⟨f, fd, ds, dvs, F, M, hm, hb, hd, hdd⟩ := c.ex
  exact de_make M F (hr.mono hk) hg hm hb hd hdd ha hms hdb he hpl
theorem de_Ck0 {W : FSpecM} (c : CalK X.prog X.w X.K X.mg X.base x C k n ps m dd W) (hr : Room k' X.A) (hk : k + 1 ≤ k' := by decide) (hg : Gl X x := by rfl) (hdb : (x == ("__debug__" : Str)) = false := by decide) :
    DE X B (.Call (.Name x p) [] [] pos) (.own (n + 1)) (fun _ R => W (.obj C []) dd fun d s => d = .non ∧ R s) := by
  obtain ⟨f, fd, ds, dvs, F, M, hm, hb, hd, hdd⟩ := c.ex
  exact de_make0 M F (hr.mono hk) hg hm hb hd hdd hdb
end
/-! ### stepping through data -/
theorem fVar_go {i n : Nat} {ρ : Env} {d : D} {R : D → Prop} (e : slot ρ i = some (n, d)) (h : R d) : fVar i n ρ R := by
  unfold fVar; rw [e]; exact ⟨rfl, h⟩
end GK

namespace GK
open PySem PySem.Spec PyProof.Rows L2
abbrev Hol (X : Cx) (scope : Scope) (own : List (Str × Nat)) : Prop := ∀ v ∈ own.map (·.2), ∃ x, X.N[v]? = some x ∧ ∀ C cl, (compEnvC scope cl C X.env).scope.names.lookup x = some .local
theorem hol_nil {X : Cx} {scope : Scope} : Hol X scope [] := fun v h => by cases h
theorem hol_cons {X : Cx} {scope : Scope} {own : List (Str × Nat)} {y x : Str} {i : Nat} (h1 : X.N[i]? = some x) (h2 : ∀ C cl, (compEnvC scope cl C X.env).scope.names.lookup x = some .local) (t : Hol X scope own) : Hol X scope ((y, i) :: own) := fun v h => by
  rcases List.mem_cons.mp h with e | e
  · rw [e]; exact ⟨x, h1, h2⟩
  · exact t v e
/-- a def called with keywords -/
structure CalN (P : Program) (w : World) (K : PySem.W.Frag) (mg : Str → Option Value) (base : Heap) (x : Str) (k : Nat) (ps : List Str) (m : Mode) (n : Nat) (ks : List Str) (gD : List D → List D → List D) (W : BSpec) : Prop where
  ex : ∃ (f : Addr) (fd : FuncData) (g : List Value → List Value → List Value) (gV : List V → List V → List V), FnOk P w K mg base CX0 k f fd ps (spD K m W) ∧ mg x = some (.ref f) ∧ PySem.W.keepIn K (.ref f) = true ∧ KBn K fd ps n ks g gV ∧
    ∀ F vs xs zs ys, RL K F vs xs → RL K F zs ys → RL K F (gV vs zs) (gD xs ys)
theorem de_CN {X : Cx} {B : List Addr} {k k' n : Nat} {ps ks : List Str} {x : Str} {p pos : Pos} {e : Expr} {es : List Expr} {kws : List Keyword} {m : Mode} {ms ms' : List Mode} {fs fk : FA} {W : BSpec} {gD : List D → List D → List D} (c : CalN X.prog X.w X.K X.mg X.base x k ps m n ks gD W) (hr : Room k' X.A)
    (ha : DA X B (e :: es) ms fs) (hkw : DKw X B kws ms' fk) (hk : k ≤ k' := by decide) (hg : Gl X x := by rfl) (hms : ∀ m ∈ ms, m = .own 0 := by simp) (hms' : ∀ m ∈ ms', m = .own 0 := by simp) (hn : (e :: es).length = n := by rfl) (hn' : kws.length = ks.length := by rfl)
    (hl : ms.length = (e :: es).length := by rfl) (hl' : ms'.length = kws.length := by rfl)
    (hall : (backToKw pos (keywordEach kws X.env)).all (·.1.isSome) = true := by rfl) (hks : (backToKw pos (keywordEach kws X.env)).filterMap (·.1) = ks := by rfl)
    (hdb : (x == ("__debug__" : Str)) = false := by decide) (he : starEach (e :: es) X.env = (false, eval e X.env) :: starEach es X.env := by rfl)
    (hpl : ((backTo pos (starEach (e :: es) X.env)).any (·.1) || (backToKw pos (keywordEach kws X.env)).any (·.1.isNone)) = false := by rfl) :
    DE X B (.Call (.Name x p) (e :: es) kws pos) m (fun ρ R => fs ρ fun xs => fk ρ fun ys => W B (gD xs ys) R) := by
  obtain ⟨f, fd, g, gV, F, hm, kp, hb, hgd⟩ := c.ex
  exact de_callN gD F (hr.mono hk) hg hm kp hb hgd ha hkw hms hms' hn hn' hl hl' hall hks hdb he hpl
end GK

namespace GK
open PySem PySem.Spec PyProof.Rows L2

/-! ### loops over data -/
theorem forD_go {t : D → Env → Option Env} {gb : FS} {E : DEnds} (I : List D → Env → Prop) (hs : ∀ x r ρ, I (x :: r) ρ → ∀ N : Env → Prop, (∀ ρ2, I r ρ2 → N ρ2) → ∃ ρ', t x ρ = some ρ' ∧ gb { E with nx := N, ct := N, bk := E.nx } ρ') (hd : ∀ ρ, I [] ρ → E.nx ρ) :
    ∀ xs ρ, I xs ρ → forD t gb xs E ρ
  | [], ρ, h => hd ρ h
  | x :: r, ρ, h => hs x r ρ h _ fun ρ2 h2 => forD_go I hs hd r ρ2 h2
theorem compD_go {t : D → Env → Option Env} {fc : FT} {fe : FE} {ρ : Env} {R : D → Prop} (I : List D → List D → Prop)
    (hs : ∀ x r acc, I (x :: r) acc → ∀ N : List D → Prop, (∀ a, I r a → N a) → ∃ ρ', t x ρ = some ρ' ∧ fc ρ' fun b => if b = true then fe ρ' fun y => acc.length < sizeLine ∧ N (acc ++ [y]) else N acc) (hd : ∀ acc, I [] acc → R (.lst acc)) :
    ∀ xs acc, I xs acc → compD t fc fe ρ xs acc R
  | [], acc, h => hd acc h
  | x :: r, acc, h => hs x r acc h _ fun a h2 => compD_go I hs hd r a h2
/-- each item answers by itself -/
theorem compD_map {Z : Type} (ι : Z → D) (φ : Z → Option D) {t : D → Env → Option Env} {fc : FT} {fe : FE} {ρ : Env} {R : D → Prop} {xs : List Z} (hs : ∀ x ∈ xs, ∀ N : Option D → Prop, N (φ x) → ∃ ρ', t (ι x) ρ = some ρ' ∧ fc ρ' fun b => if b = true then fe ρ' fun y => N (some y) else N none) (hl : xs.length ≤ sizeLine)
    (hR : R (.lst (xs.filterMap φ))) : compD t fc fe ρ (xs.map ι) [] R := by
  have key : ∀ (ys zs : List Z), zs ++ ys = xs → compD t fc fe ρ (ys.map ι) (zs.filterMap φ) R := by
    intro ys
    induction ys with
    | nil =>
      intro zs e
      rw [List.append_nil] at e
      subst e
      exact hR
    | cons x r ih =>
      intro zs e
      have hx : x ∈ xs := by rw [← e]; simp
      have hlen : (zs.filterMap φ).length < sizeLine := by
        have h1 := List.length_filterMap_le φ zs
        have h2 := congrArg List.length e
        rw [List.length_append, List.length_cons] at h2
        omega
      have nxt := ih (zs ++ [x]) (by rw [← e]; simp)
      rw [List.filterMap_append] at nxt
      exact hs x hx (fun o => match o with
        | some y => (zs.filterMap φ).length < sizeLine ∧ compD t fc fe ρ (r.map ι) (zs.filterMap φ ++ [y]) R
        | none => compD t fc fe ρ (r.map ι) (zs.filterMap φ) R) (by
          cases q : φ x with
          | none =>
            have e1 : [x].filterMap φ = [] := by simp [q]
            rw [e1, List.append_nil] at nxt
            exact nxt
          | some y =>
            have e1 : [x].filterMap φ = [y] := by simp [q]
            rw [e1] at nxt
            exact ⟨hlen, nxt⟩)
  exact key xs [] rfl
theorem compDD_map {Z : Type} (ι : Z → D) (step : D → Z → Option D) {t : D → Env → Option Env} {fc : FT} {fk fv : FE} {ρ : Env} {R : D → Prop} {xs : List Z} {acc : D} (hs : ∀ x ∈ xs, ∀ a : D, ∀ N : D → Prop, (∀ a', step a x = some a' → N a') → ∃ ρ', t (ι x) ρ = some ρ' ∧ fc ρ' fun b => if b = true then fk ρ' fun k => fv ρ' fun v => ∃ a', putDD a k v = some a' ∧ N a' else N a)
    (last : D) (hf : xs.foldlM step acc = some last) (hR : R last) : compDD t fc fk fv ρ (xs.map ι) acc R := by
  induction xs generalizing acc with
  | nil =>
    have e : acc = last := Option.some.inj hf
    subst e
    exact hR
  | cons x r ih =>
    rw [List.foldlM_cons] at hf
    cases q : step acc x with
    | none => rw [q] at hf; cases hf
    | some a' =>
      rw [q] at hf
      exact hs x List.mem_cons_self acc (fun a => compDD t fc fk fv ρ (r.map ι) a R) fun a2 e2 => by
        rw [q] at e2
        cases e2
        exact ih (fun y hy => hs y (List.mem_cons_of_mem _ hy)) hf
/-- .. from any state on -/
theorem compDD_go {t : D → Env → Option Env} {fc : FT} {fk fv : FE} {ρ : Env} {R : D → Prop} (I : List D → D → Prop)
    (hs : ∀ x r acc, I (x :: r) acc → ∀ N : D → Prop, (∀ a, I r a → N a) → ∃ ρ', t x ρ = some ρ' ∧ fc ρ' fun b => if b = true then fk ρ' fun k => fv ρ' fun v => ∃ a', putDD acc k v = some a' ∧ N a' else N acc) (hd : ∀ acc, I [] acc → R acc) :
    ∀ xs acc, I xs acc → compDD t fc fk fv ρ xs acc R
  | [], acc, h => hd acc h
  | x :: r, acc, h => hs x r acc h _ fun a h2 => compDD_go I hs hd r a h2
/-! ### small steps -/
theorem gIsi_go {K : PySem.W.Frag} {d : D} {a n : String} {b : Bool} {R : D → Prop} (ht : tyD d = some (.type a)) (hk : kitB a n = some b) (hn : ∀ C es, d ≠ .obj C es) (h : R (.bl b)) : gIsi K [d, .raw (.ty n)] R :=
  ⟨_, _, b, ht, rfl, kit_ty hk, fun C es e => absurd e (hn C es), h⟩
theorem gFld_go {C : Addr} {f : Str} {es : List (Str × D)} {d : D} {R : D → Prop} (h : es.lookup f = some d) (q : R d) : gFld C f (.obj C es) R := ⟨rfl, d, h, q⟩
theorem gNotV_bl {b : Bool} {R : D → Prop} : gNotV (.bl b) R = R (.bl (!b)) := rfl
theorem gEqA_int {n : Bool} {i j : Int} {R : D → Prop} : gEqA n (.int i) (.int j) R = R (.bl (n ^^ decide (i = j))) := rfl
theorem gEqA_str {n : Bool} {i j : Str} {R : D → Prop} : gEqA n (.str i) (.str j) R = R (.bl (n ^^ decide (i = j))) := rfl
theorem gEqA_bl {n : Bool} {i j : Bool} {R : D → Prop} : gEqA n (.bl i) (.bl j) R = R (.bl (n ^^ decide (i = j))) := rfl
theorem bOf_bl {b : Bool} {R : Bool → Prop} : bOf R (.bl b) = R b := rfl
theorem g2I_int {c : Int → Int → Prop} {h : Int → Int → D} {i j : Int} {R : D → Prop} : g2I c h (.int i) (.int j) R = (c i j ∧ R (h i j)) := rfl
theorem g2I0_int {h : Int → Int → D} {i j : Int} {R : D → Prop} : g2I0 h (.int i) (.int j) R = R (h i j) := rfl
theorem g1I_int {h : Int → D} {i : Int} {R : D → Prop} : g1I h (.int i) R = R (h i) := rfl
theorem gLen_lst {ds : List D} {R : D → Prop} : gLen [.lst ds] R = R (.int ds.length) := rfl
theorem gLen_tup {ds : List D} {R : D → Prop} : gLen [.tup ds] R = R (.int ds.length) := rfl
theorem gInt_int {i : Int} {R : D → Prop} : gInt [.int i] R = R (.int i) := rfl
theorem gMax2_int {i j : Int} {R : D → Prop} : gMax2 [.int i, .int j] R = R (.int (if j > i then j else i)) := rfl
theorem gMin2_int {i j : Int} {R : D → Prop} : gMin2 [.int i, .int j] R = R (.int (if j < i then j else i)) := rfl
theorem gIsN_non {n : Bool} {R : D → Prop} : gIsN n .non .non R = R (.bl (!n)) := rfl
theorem gIsN_obj {n : Bool} {C : Addr} {es : List (Str × D)} {R : D → Prop} : gIsN n (.obj C es) .non R = R (.bl n) := rfl
theorem gIsN_dT {n : Bool} {es : List (List Key × D)} {R : D → Prop} : gIsN n (.dT es) .non R = R (.bl n) := rfl
theorem gIsN_dK {n : Bool} {es : List (Key × D)} {R : D → Prop} : gIsN n (.dK es) .non R = R (.bl n) := rfl
theorem gIsN_int {n : Bool} {i : Int} {R : D → Prop} : gIsN n (.int i) .non R = R (.bl n) := rfl
theorem xsOf_lst {xs : List D} {R : List D → Prop} : xsOf R (.lst xs) = R xs := rfl
theorem tsOf_tup {xs : List D} {R : List D → Prop} : tsOf R (.tup xs) = R xs := rfl
theorem atI_0 {α : Type} {a : α} {r : List α} : atI (a :: r) 0 = some a := by
  unfold atI ixN
  rw [if_pos (by decide), if_pos (by rw [List.length_cons]; omega)]; rfl
theorem atI_1 {α : Type} {a b : α} {r : List α} : atI (a :: b :: r) 1 = some b := by
  unfold atI ixN
  rw [if_pos (by decide), if_pos (by rw [List.length_cons, List.length_cons]; omega)]; rfl
theorem atI_2 {α : Type} {a b c : α} {r : List α} : atI (a :: b :: c :: r) 2 = some c := by
  unfold atI ixN
  rw [if_pos (by decide), if_pos (by rw [List.length_cons, List.length_cons, List.length_cons]; omega)]; rfl
theorem ex_some {α : Type} {a : α} {R : α → Prop} : (∃ d, some a = some d ∧ R d) = R a := by
  apply propext
  exact ⟨fun ⟨d, e, h⟩ => by cases e; exact h, fun h => ⟨a, rfl, h⟩⟩
theorem gIx_t0 {a : D} {r : List D} {R : D → Prop} : gIx (.tup (a :: r)) (.int 0) R = R a := by
  show (∃ d, atI (a :: r) 0 = some d ∧ R d) = R a
  rw [atI_0]; exact ex_some
theorem gIx_t1 {a b : D} {r : List D} {R : D → Prop} : gIx (.tup (a :: b :: r)) (.int 1) R = R b := by
  show (∃ d, atI (a :: b :: r) 1 = some d ∧ R d) = R b
  rw [atI_1]; exact ex_some
theorem gIx_l0 {a : D} {r : List D} {R : D → Prop} : gIx (.lst (a :: r)) (.int 0) R = R a := by
  show (∃ d, atI (a :: r) 0 = some d ∧ R d) = R a
  rw [atI_0]; exact ex_some
theorem gIx_l1 {a b : D} {r : List D} {R : D → Prop} : gIx (.lst (a :: b :: r)) (.int 1) R = R b := by
  show (∃ d, atI (a :: b :: r) 1 = some d ∧ R d) = R b
  rw [atI_1]; exact ex_some
theorem gIx_l2 {a b c : D} {r : List D} {R : D → Prop} : gIx (.lst (a :: b :: c :: r)) (.int 2) R = R c := by
  show (∃ d, atI (a :: b :: c :: r) 2 = some d ∧ R d) = R c
  rw [atI_2]; exact ex_some
/-- an item of a list by its number -/
theorem gIx_nat {ds : List D} {k : Nat} {d : D} {R : D → Prop} (h : ds[k]? = some d) (q : R d) : gIx (.lst ds) (.int (k : Int)) R := by
  refine ⟨d, ?_, q⟩
  have hk := (List.getElem?_eq_some_iff.mp h).1
  unfold atI ixN
  rw [if_pos (by omega), if_pos (by omega)]
  exact h
theorem tgN_go {i : Nat} {d : D} {ρ : Env} (h : i < ρ.length) : tgN i d ρ = some (ρ.set i (some (0, d))) := if_pos h
theorem fVar_0 {n k : Nat} {d : D} {r : Env} {R : D → Prop} : fVar 0 n (some (k, d) :: r) R = (k = n ∧ R d) := rfl
theorem fVar_s {i n : Nat} {o : Option (Nat × D)} {r : Env} {R : D → Prop} : fVar (i + 1) n (o :: r) R = fVar i n r R := rfl
theorem wipe_nil {ρ : Env} : wipeE ρ [] = ρ := rfl
theorem wipe_cons {ρ : Env} {v : Nat} {vs : List Nat} : wipeE ρ (v :: vs) = (wipeE ρ vs).set v none := rfl
end GK

namespace GK
open PySem PySem.Spec PyProof.Rows L2

/-! ### C(..), the arguments some that others own -/
theorem Post.ofRd {K : PySem.W.Frag} {B A : List Addr} {F H : Hp} {n : Nat} {R : D → Prop} {Q : VK} (w : WF B F H) (k : Post K B A F H (.own n) R Q) : Post K B [] (rdH B H) H (.own n) (fun d => flatN n d = true ∧ R d) Q := fun F' H' v d fp s hv ho hn hR => by
  have hv : Own K F' H' n v d fp := hv
  have s2 : Step B A F H F H' := ⟨s.same, fun _ _ h => h, fun _ _ h => .inl h, ⟨fun a u e => rdH_same s.same a u (w.sub a u e), s.wf.lock, s.wf.bag⟩⟩
  have ht := hv.there
  refine k _ H' v d fp s2.addT (Own.flat (fun a vs e => addT_tup s2.wf.sub (s.wf.sub _ _ e)) hR.1 hv) (fun a ha => ?_) hn hR.2
  obtain ⟨h1, h2, h3⟩ := ho a ha
  refine ⟨h1.elim (fun h => by cases h) .inr, ?_, h3⟩
  have hz : H a = none := h1.elim (fun h => by cases h) id
  obtain ⟨o, e, mu⟩ := ht a ha
  cases q : addT F (rdH B H') a with
  | none => rfl
  | some u =>
    exfalso
    rcases addT_cases q with z | ⟨z, t⟩
    · rw [F_none w hz] at z; cases z
    · obtain ⟨_, x, ex, er⟩ := rdH_some z
      rw [e] at ex; cases ex
      rw [mut_er mu] at er; subst er
      cases o <;> first | exact mu | exact t
theorem de_CkR {X : Cx} {B : List Addr} {k k' n : Nat} {C : Addr} {ps : List Str} {x : Str} {p pos : Pos} {e : Expr} {es : List Expr} {m : Mode} {ms : List Mode} {fs : FA} {dd : List D} {W : FSpecM} (c : CalK X.prog X.w X.K X.mg X.base x C k n ps m dd W) (hr : Room k' X.A) (ha : DA X B (e :: es) ms fs)
    (hk : k + 1 ≤ k' := by decide) (hg : Gl X x := by rfl) (hdb : (x == ("__debug__" : Str)) = false := by decide) (he : starEach (e :: es) X.env = (false, eval e X.env) :: starEach es X.env := by rfl) (hpl : (backTo pos (starEach es X.env)).any (·.1) = false := by rfl) :
    DE X B (.Call (.Name x p) (e :: es) [] pos) (.own (n + 1)) (fArgs (fun xs R => W (.obj C []) (xs ++ dd) fun d s => d = .non ∧ flatN (n + 1) s = true ∧ R s) fs) := by
  obtain ⟨f, fd, ds, dvs, F, M, hm, hb, hd, hdd⟩ := c.ex
  exact PE.imp (pe_make M F (hr.mono hk) hg hm hb hd pass0 ha hdb he hpl) fun σ H Q ⟨F, ρ, fp, R, S, hf, k⟩ => ⟨F, ρ, fp, _, S, hf, fun F1 H1 vs xs fp1 s1 hv o1 n1 hW x dx hx hdx ne =>
    make_ok (wf_rd s1.wf) ((hv.rd s1.wf fun a ha => (o1 a ha).2.2).append (hdd _)) hx hdx ne hW ((k.after s1 (A1 := fp1) fun a ha => (o1 a ha).1).ofRd s1.wf)⟩
end GK

namespace GK
open PySem PySem.Spec PyProof.Rows L2

/-! ### insert; get with one argument; tuple(xs); list(range(n)) -/
theorem OwnL.cut {P : V → D → List Addr → Prop} : ∀ {vs : List V} {ds : List D} {f : List Addr} (k : Nat), OwnL P vs ds f → ∃ g h, f = g ++ h ∧ OwnL P (vs.take k) (ds.take k) g ∧ OwnL P (vs.drop k) (ds.drop k) h
  | vs, ds, f, 0, o => ⟨[], f, rfl, rfl, o⟩
  | [], [], f, k + 1, o => ⟨f, [], (List.append_nil f).symm, o, rfl⟩
  | v :: vs, d :: ds, f, k + 1, ⟨f1, f2, e, h, t⟩ => by
    obtain ⟨g, g', e', h1, h2⟩ := OwnL.cut k t
    exact ⟨f1 ++ g, g', by rw [e, e', List.append_assoc], ⟨f1, g, rfl, h, h1⟩, h2⟩
def insD (ds : List D) (j : Nat) (d : D) : List D := ds.take j ++ [d] ++ ds.drop j
theorem OwnL.insert {P : V → D → List Addr → Prop} {v : V} {d : D} {g : List Addr} (q : P v d g) {vs : List V} {ds : List D} {f : List Addr} (k : Nat) (h : OwnL P vs ds f) (nd : (f ++ g).Nodup) :
    ∃ f', OwnL P (vs.take k ++ [v] ++ vs.drop k) (insD ds k d) f' ∧ (∀ a ∈ f', a ∈ f ∨ a ∈ g) ∧ f'.Nodup := by
  obtain ⟨f1, f2, e, h1, h2⟩ := h.cut k
  subst e
  refine ⟨f1 ++ g ++ f2, (h1.append (OwnL.one q)).append h2, fun a ha => ?_, ?_⟩
  · simp only [List.mem_append] at ha ⊢
    rcases ha with (z | z) | z
    · exact .inl (.inl z)
    · exact .inr z
    · exact .inl (.inr z)
  · simp only [List.nodup_append, List.mem_append] at nd ⊢
    obtain ⟨⟨n1, n2, n3⟩, n4, n5⟩ := nd
    refine ⟨⟨n1, n4, fun a ha b hb => n5 a (.inl ha) b hb⟩, n2, fun a ha b hb => ?_⟩
    rcases ha with z | z
    · exact n3 a z b hb
    · exact fun e => n5 b (.inr hb) a z e.symm
section
variable {X : Cx} {ej e : Expr} {pin n i : Nat} {m : Mode} {fj fe : FE} {x : Str} {pos p apos cpos : Pos}
/-- x.insert(j, e) -/
theorem dm_insert (i n : Nat) (hj : DE X B ej (.own 0) fj) (he : DE X B e (.own n) fe) (hN : NameOk X i x := by exact ⟨rfl, by first | exact Or.inl rfl | exact Or.inr (Or.inl rfl) | exact Or.inr (Or.inr rfl), by decide, by decide⟩) (hb : BmOk X (.Name x p) "insert" apos ej [e] cpos := by exact ⟨rfl, rfl, rfl, rfl, rfl⟩)
    (hs : starEach [e] X.env = (false, eval e X.env) :: starEach [] X.env := by rfl) :
    DM X B (.Call (.Attribute (.Name x p) "insert" apos) [ej, e] [] cpos) pin m (fun ρ R => ownLst ρ i n (fun _ => True) ∧ fj ρ fun j => fe ρ fun d => ∃ j', j = .int j' ∧ 0 ≤ j' ∧ j' < 2 ^ 63 ∧ ownLst ρ i n fun ds => ds.length < sizeLine ∧ R .non (ρ.set i (some (n + 1, .lst (insD ds j'.toNat d))))) :=
  PE.imp (pe_bm PySem.F.plainAttrs_list PySem.F.slot_list_insert PySem.F.type_list_insert mt_insert (pe_var hN.1 hN.2 hN.3 hN.4) (da_cons hj (da_cons he da_nil hs) hb.4) hb.1 hb.2 hb.3 hb.4 hb.5) fun σ H Q ⟨Pn, Z0, F0, F, ρ, fp, R, hpl, S, ⟨h0, hf⟩, k⟩ => by
    obtain ⟨ds0, e0, _⟩ := h0.inv
    obtain ⟨a, vs, g, h1, h2, h3, h4, h5, h6, kk⟩ := S.lst e0
    refine ⟨_, h1, .inl ⟨rfl, _, SqL.of h2⟩, F, ρ, fp, fun xs => ∃ j d, xs = [j, d] ∧ ∃ j', j = .int j' ∧ 0 ≤ j' ∧ j' < 2 ^ 63 ∧ ownLst ρ i n fun ds => ds.length < sizeLine ∧ R .non (ρ.set i (some (n + 1, .lst (insD ds j'.toNat d)))), S.base, ?_, fun F' H' ws xs fx s hw ox nx ⟨j, d, ex, j', ej', l1, l2, hR⟩ => ?_⟩
    · show fj ρ fun x => fe ρ fun y => ∃ j d, [x, y] = [j, d] ∧ _
      have : (fun x => fe ρ fun y => ∃ j d, [x, y] = [j, d] ∧ ∃ j', j = .int j' ∧ 0 ≤ j' ∧ j' < 2 ^ 63 ∧ ownLst ρ i n fun ds => ds.length < sizeLine ∧ R .non (ρ.set i (some (n + 1, .lst (insD ds j'.toNat d))))) = fun x => fe ρ fun y => ∃ j', x = .int j' ∧ 0 ≤ j' ∧ j' < 2 ^ 63 ∧ ownLst ρ i n fun ds => ds.length < sizeLine ∧ R .non (ρ.set i (some (n + 1, .lst (insD ds j'.toNat y)))) := by
        funext x
        congr 1
        funext y
        exact propext ⟨fun ⟨j, d, e, h⟩ => by cases e; exact h, fun h => ⟨x, y, rfl, h⟩⟩
      rw [this]; exact hf
    subst ex
    subst ej'
    obtain ⟨w1, w2, f1, f2, ew, hw1, hw2, ef⟩ := hw.two
    subst ew
    obtain ⟨rfl, rfl⟩ := hw1.int
    obtain ⟨ds, e1, hz, hR⟩ := hR.inv
    have S' := S.step s fun a h => (by cases h)
    have ap := S.apart ox nx
    rw [List.nil_append] at ef
    subst ef
    obtain ⟨a', vs', g', h1', h2', h3', h4', h5', h6', kk'⟩ := S'.lst e1
    rw [h1] at h1'
    cases h1'
    have hw2 : Own X.K F' H' n w2 d fx := hw2
    obtain ⟨g2, o2, sub, nd⟩ := OwnL.insert hw2 j'.toNat h3' (nd_of h5' ap.2 fun b hb z => (ap.1 b hb).2.2.2 (h6' b (List.mem_cons_of_mem _ z)))
    obtain ⟨fp2, S3⟩ := kk' _ _ g2 fx ap sub nd o2
    exact ⟨a, vs', j', w2, rfl, rfl, h2', by rw [h3'.len]; exact hz, l1, l2, k F' _ _ fp2 .non .non [] S3 (Val.atom rfl fun _ => .non) .nil hR⟩
/-- d.get(k) -/
def gDGet1 (d k : D) (R : D → Prop) : Prop := ∃ o, lookD d k = some o ∧ R (o.getD .non)
theorem de_dget1 {a b : Expr} {m m' : Mode} {f f' : FE} (hu : X.A.units + 1 < cLine) (ha : DE X B a m f) (hb : DE X B b .rd f') (hm : m.look = true := by rfl) (hc : m' = m.child := by rfl)
    (M : M1 X a "get" apos b cpos := by exact ⟨rfl, rfl, rfl, rfl⟩) : DE X B (.Call (.Attribute a "get" apos) [b] [] cpos) m' (fun ρ R => f ρ fun d => isDctD d ∧ f' ρ fun k => gDGet1 d k R) := by
  subst hc
  exact PE.imp (pe_dget1 hu ha hb M) fun σ H Q ⟨F, ρ, fp, R, S, hf, k⟩ => by
    refine ⟨F, ρ, fp, _, S, hf, fun F1 H1 v d f1 s1 hv o1 n1 ⟨hd, hg⟩ => ?_⟩
    obtain ⟨a, rfl, hd', haB⟩ := isDctD.of hm s1.wf hv hd
    refine ⟨a, rfl, hd', F1, ρ, fp, _, S.step s1 (fun a ha => by cases ha), hg, fun F2 H2 kv kd f2 s2 hkv o2 n2 ⟨o, ho, hR⟩ => ?_⟩
    have hv2 := hv.step s2 fun a ha => (o1 a ha).2.2
    obtain ⟨a', ov, ea, g, _, h⟩ := look_ok (m := m) (mk := .rd) (f2 := []) hm s2.wf hv2 hkv.1 ho
    cases ea
    have k2 := (k.after s1 (A1 := []) fun a h => by cases h).after s2 (A1 := []) fun a h => by cases h
    refine ⟨ov, g, ?_⟩
    rcases h with ⟨q, q'⟩ | ⟨x', y', e1, e2, hy⟩
    · rw [q']
      rw [q] at hR
      exact k2.non s2.wf hR
    · rw [e2]
      rw [e1] at hR
      exact k2.val s2.wf hy hR
/-- tuple(xs) -/
def gTupL : List D → (D → Prop) → Prop
  | [.lst ds], R => R (.tup ds)
  | [.tup ds], R => R (.tup ds)
  | _, _ => False
theorem opN_tupL {K : PySem.W.Frag} : OpN K (fun xs H Q => ∃ p ys, xs = [.ref p] ∧ ((SqL K H p ys ∧ ∀ l, H l = none → Q (.ref l) (upd H l (.tup ys))) ∨ (SqT K H p ys ∧ Q (.ref p) H))) [.own 0] (.own 0) gTupL := by
  intro B F H vs ds fp R Q w hv hf hg k
  unfold gTupL at hg
  split at hg
  · obtain ⟨v, rfl, h⟩ := hv.one
    obtain ⟨a, xs, rfl, ha, r⟩ := (show GK.R K F v _ from h.1).lstI
    exact ⟨a, xs, rfl, .inl ⟨sqL_rd (w.sub _ _ ha), fun l hl => k.newTup w r hg hl⟩⟩
  · obtain ⟨v, rfl, h⟩ := hv.one
    obtain ⟨a, xs, rfl, ha, r⟩ := (show GK.R K F v _ from h.1).tupI
    exact ⟨a, xs, rfl, .inr ⟨sqT_rd (w.sub _ _ ha), k F H _ _ [] (Step.refl w) ⟨h.1, rfl⟩ (fun a h => by cases h) List.nodup_nil hg⟩⟩
  · exact hg.elim
theorem de_tupL {f : FE} (hz : X.mg "tuple" = none) (ha : DE X B e (.own 0) f) (hg : Gl X "tuple" := by rfl) (he : starEach [e] X.env = (false, eval e X.env) :: starEach [] X.env := by rfl) (hpl : (backTo pos (starEach [] X.env)).any (·.1) = false := by rfl) :
    DE X B (.Call (.Name "tuple" p) [e] [] pos) (.own 0) (fArgs gTupL (fCons f fNil)) := de_Ty call_tuple_of opN_tupL hg hz (by decide +kernel) (da_cons ha da_nil he) (by decide) (by decide) he hpl
/-- list(range(n)) -/
def gLRg (R : D → Prop) : D → Prop
  | .int n => 0 ≤ n ∧ n ≤ 16777216 ∧ R (.lst (rangeD 0 n.toNat))
  | _ => False
theorem rl_rng {K : PySem.W.Frag} {F : Hp} : ∀ (xs : List Int), RL K F (xs.map V.int) (xs.map D.int)
  | [] => .nil
  | x :: xs => .cons (.int x) (rl_rng xs)
theorem de_listRg {f : FE} {p2 pos2 : Pos} {m1 : Mode} (hc : X.calm = true) (hz : X.mg "list" = none) (hr : X.mg "range" = none) (ha : DE X B e m1 f) (hg : Gl X "list" := by rfl) (hg2 : Gl X "range" := by rfl) (he : starEach [e] X.env = (false, eval e X.env) :: starEach [] X.env := by rfl)
    (he2 : starEach [.Call (.Name "range" p2) [e] [] pos2] X.env = (false, eval (.Call (.Name "range" p2) [e] [] pos2) X.env) :: starEach [] X.env := by rfl) :
    DE X B (.Call (.Name "list" p) [.Call (.Name "range" p2) [e] [] pos2] [] pos) (.own 1) (fun ρ R => f ρ (gLRg R)) :=
  PE.imp (pe_listRg hc hg hz (prg_1 hg2 hr ha he) he2) fun σ H Q ⟨F, ρ, fp, R, S, hf, k⟩ => by
    refine ⟨F, ρ, fp, _, S, hf, fun F1 H1 v d f1 s1 hv o1 n1 hd => ?_⟩
    cases d <;> try exact (show False from hd).elim
    rename_i n
    obtain ⟨rfl, _⟩ := hv.int
    obtain ⟨h0, h1, hR⟩ := hd
    refine ⟨n, rfl, RgOk.of_le (Int.le_refl 0) h1 (by decide) h0, fun q hq => ?_⟩
    have e1 : rgV 0 n = ((List.range n.toNat).map fun i : Nat => (0 : Int) + (i : Int)).map V.int := by unfold rgV; rw [List.map_map, Int.sub_zero]; rfl
    have e2 : rangeD 0 n.toNat = ((List.range n.toNat).map fun i : Nat => (0 : Int) + (i : Int)).map D.int := by unfold rangeD; rw [List.map_map]; rfl
    rw [e1]
    rw [e2] at hR
    exact (k.after s1 (A1 := []) fun a h => by cases h).newLst0 s1.wf (rl_rng _) hR hq
end
end GK

namespace GK
open PySem PySem.Spec PyProof.Rows L2

/-! ### enumerate of a list or a tuple -/
theorem fld_ne {h : Heap} {a b : Addr} {u v : Obj} {c1 c2 : String} (e1 : h.get? a = some u) (e2 : h.get? b = some v) (q1 : u.cls = .type c1) (q2 : v.cls = .type c2) (n : c1 ≠ c2) : a ≠ b := fun e => by
  subst e
  rw [e1] at e2
  cases e2
  rw [q1] at q2
  exact n (Value.type.inj q2)
section
open AutoSeq1 (wpAny_loadPart')
theorem enum_new1 {v : Value} {ob : Obj} {Z : Heap → Prop} (bg : Begins v ob Z) : Meets (Builtin.«enumerate.__new__» ⟨[.type "enumerate", v], []⟩) (fun _ R s => Z s.heap ∧
      R (.ok (.ret (.ref (s.heap.push ob).objs.size))) { s with heap := (s.heap.push ob).push { cls := .type "enumerate", data := .fields #[.none, .bool false, .ref s.heap.objs.size, rawInt 0, .none, .none] } }) :=
  .of_wp fun P w A R s h => by
    obtain ⟨hp, gg, dd, tt, oo⟩ := s
    obtain ⟨hz, h⟩ := h
    have su := sub_enumerate
    have it1 : ∀ {A' : Around} {E : Value → Shared → Prop} {Q : Value → Shared → Prop}, Q (.ref hp.objs.size) ⟨hp.push ob, gg, dd, tt, oo⟩ → wpAny (model P w) A' (pyIter v) Q E ⟨hp, gg, dd, tt, oo⟩ :=
      fun q => bg.iter P w _ _ ⟨hp, gg, dd, tt, oo⟩ _ hz q
    wp_walk using it1
    refine wpAny_stack_any fun st => wpAny_pure ?_
    split
    · rename_i c _ _ _ _ _
      cases (c == Value.type "enumerate") <;> (wp_walk using it1; exact ⟨_, rfl, h⟩)
    · wp_walk using it1
      exact ⟨_, rfl, h⟩
end
section
variable {P : Program} {w : World} {A : Around} {E : Value → Shared → Prop} {s : Shared}
theorem enum_call1 {v : Value} {ob : Obj} {Z : Heap → Prop} {Q : Value → Shared → Prop} (bg : Begins v ob Z) (hz : Z s.heap)
    (k : ∀ g', IsEnum g' (s.heap.objs.size + 1) s.heap.objs.size 0 .none → g'.get? s.heap.objs.size = some ob → (∀ b u, s.heap.get? b = some u → g'.get? b = some u) → Q (.ref (s.heap.objs.size + 1)) { s with heap := g' }) :
    wpAny (model P w) A (call (.type "enumerate") [v]) Q E s := by
  refine callType_new F.called_enumerate (by decide) (F.typeCall_enumerate_1 _) (F.newCall_enumerate_1 _) (fun q => F.args_object_init_2 q _) F.entry_enumerate_new (enum_new1 bg) ⟨hz, ?_⟩
  have sz : (s.heap.push ob).objs.size = s.heap.objs.size + 1 := Heap.size_push ..
  show _ ∧ _
  rw [sz]
  have ie : IsEnum ((s.heap.push ob).push { cls := .type "enumerate", data := .fields #[.none, .bool false, .ref s.heap.objs.size, rawInt 0, .none, .none] }) (s.heap.objs.size + 1) s.heap.objs.size 0 .none := by
    have q := Heap.get?_push_size (s.heap.push ob) (o := { cls := .type "enumerate", data := .fields #[.none, .bool false, .ref s.heap.objs.size, rawInt 0, .none, .none] }) rfl
    rw [sz] at q; exact q
  exact ⟨⟨_, ie, rfl⟩, k _ ie (Heap.get?_push_of_some _ (Heap.get?_push_size _ bg.free)) fun b u x => Heap.get?_push_of_some _ (Heap.get?_push_of_some _ x)⟩
end
/-- the items of the tuple at a, numbered -/
def Itet (K : PySem.W.Frag) (a : Addr) : It :=
  ⟨fun i H => ∃ (xs : List V) (x : V), SqT K H a xs ∧ xs[i]? = some x, fun i H v H' => ∃ T x, v = .ref T ∧ H T = none ∧ H' = upd H T (.tup [.int (i : Nat), x]) ∧ ∀ xs, SqT K H a xs → xs[i]? = some x, fun i H => ∃ xs : List V, SqT K H a xs ∧ xs.length ≤ i⟩
theorem turn_enumT {P : Program} {w : World} {K : PySem.W.Frag} {elts : List Expr} {kk : Nat} {tpos : Pos} (a e it : Addr) :
    Turn P w K (.Tuple elts kk tpos) (Itet K a) [e, it] e (fun i h => (∃ old, IsEnum h e it ((i : Nat) : Int) old) ∧ h.IsTupleIter it a i ∧ e ≠ it) where
  mem := by simp
  obj := fun i h st b hb => by
    obtain ⟨⟨old, he⟩, ⟨o, ho, hc, hd⟩, _⟩ := st
    rcases (show b = e ∨ b = it by simpa using hb) with z | z
    · rw [z]; exact ⟨_, he, fun v q => nomatch q⟩
    · rw [z]; exact ⟨o, ho, fun v q => by rw [hd] at q; cases q⟩
  keep := fun i h g' st k => let ⟨⟨old, he⟩, hi, hne⟩ := st; ⟨⟨old, k e (by simp) _ he⟩, hi.at fun o q => k it (by simp) o q, hne⟩
  item := by
    intro X e1 e2 e3 hc i pins s σ H E I hf st ⟨xs, x, hq, hx⟩
    subst e1 e2 e3
    obtain ⟨⟨old, he⟩, hit, hne⟩ := st
    obtain ⟨its, rv, p, hz⟩ := I.tuple hq
    obtain ⟨u, hu, ru⟩ := rv.get hx
    have hlt : i < its.toArray.size := by rw [List.size_toArray]; exact (List.getElem?_eq_some_iff.mp hu).1
    have hel : e < s.heap.objs.size := Heap.lt_size he
    obtain ⟨ot, eo, co, do1⟩ := id hit
    obtain ⟨ol, el, cl, rl⟩ := id (show s.heap.IsTuple a its.toArray from p)
    have nai : a ≠ it := fld_ne el eo cl co (by decide)
    have nae : a ≠ e := fld_ne el he cl rfl (by decide)
    refine wpAny_pyNext_enum_itemD (Draws.tuple (prog := X.prog) (w := X.w) (A := X.A.in1) (I.ok.hd hc) it a nai its.toArray) he ⟨hit, p⟩ hlt hne (by simp [hne, Ne.symm nae]) fun y g' tk hy ho ⟨hit2, _⟩ hT hsz hk => ?_
    have ey : y = u := by
      have : its.toArray[i]? = some u := by simpa using hu
      rw [this] at hy; cases hy; rfl
    subst ey
    refine ⟨_, rfl, wpAny_letOwnedTupleGo_enum (s := { s with heap := g', toks := tk + 1 }) ho fun g2 he2 sb => ?_⟩
    have hT2 : g2.get? s.heap.objs.size = some { cls := .type "tuple", data := .seq #[.int i tk, y] } := (sb.2 _ (Nat.ne_of_gt hel)).trans hT
    have nw : ObjOk X.prog X.w (upd H s.heap.objs.size (.tup [.int (i : Nat), x])) g2 s.heap.objs.size (.tup [.int (i : Nat), x]) := ⟨by show 2 ≤ sizeLine; decide, [.int i tk, y], .cons ⟨_, rfl⟩ (.cons ru .nil), ⟨_, hT2, rfl, _, rfl⟩⟩
    have I1 : Inv X pins σ (upd H s.heap.objs.size (.tup [.int (i : Nat), x])) { s with heap := g2, toks := tk + 1 } := I.turnedNew (ch := [e, it]) (fun b ob hb q => (sb.2 b (fun z => hb (by simp [z]))).trans (hk b ob (fun z => hb (by simp [z])) (fun z => hb (by simp [z])) q)) hf (Nat.le_refl _) nw
    refine ⟨.ref s.heap.objs.size, _, I1, rfl, ⟨_, x, rfl, I.hok.fresh (Nat.le_refl _), rfl, fun ys hy => by rw [I.tuple_inj hy hq]; exact hx⟩, ⟨⟨y, ?_⟩, hit2.at fun o q => (sb.2 it (Ne.symm hne)).trans q, hne⟩, fun b hb => ?_⟩
    · rw [show ((i + 1 : Nat) : Int) = (i : Int) + 1 by omega]
      exact he2
    · have lb : b < s.heap.objs.size := by
        rcases (show b = e ∨ b = it by simpa using hb) with z | z
        · rw [z]; exact hel
        · rw [z]; exact Heap.lt_size eo
      rw [upd_ne (Nat.ne_of_lt lb)]
      exact (hf b hb).1
  done := by
    intro X e1 e2 e3 hc i pins s σ H E I hf st ⟨xs, hq, hx⟩
    subst e1 e2 e3
    obtain ⟨⟨old, he⟩, hit, hne⟩ := st
    obtain ⟨its, rv, p, hz⟩ := I.tuple hq
    obtain ⟨f0, f1, f2, f3, f4, f5⟩ := hf it (by simp)
    have hl := rv.length
    refine wpAny_pyNext_enum_endD (it := it) (fp := [it, a]) (n := i) (P := fun _ _ => True) (St := fun j g => j = i ∧ g.IsTupleIter it a i ∧ g.IsTuple a its.toArray) ⟨fun j g ⟨_, ⟨o, ho, _⟩, _⟩ => ⟨o, ho⟩, fun j g g' ⟨ej, h1, h2⟩ k => ⟨ej, h1.at fun o q => k it (by simp) o q, h2.at fun o q => k a (by simp) o q⟩,
      fun j s Q E hj ⟨ej, _⟩ => absurd ej (Nat.ne_of_lt hj), fun s Q E ⟨_, h1, h2⟩ k => wpAny_nextOf_tuple_end (show X.A.in1.handled = _ from I.ok.hd hc) h1 h2 (by simp; omega) k⟩ he ⟨rfl, hit, p⟩ fun g' eb => ⟨rfl, I.turned (t' := s.toks) (fun b o hb q => eb b o hb q) f0 f1 f3 f4 f5⟩
  self := fun A i s Q E st h => let ⟨⟨_, he⟩, _⟩ := st; wpAny_pyIter_enum he h
def iEnumU (K : PySem.W.Frag) (ta : TA) : TI := fun σ H R => ta σ H fun vs H1 => ∃ a xs, vs = [.ref a] ∧ ((SqL K H1 a xs ∧ R (Ite K a) H1) ∨ (SqT K H1 a xs ∧ R (Itet K a) H1))
theorem pi_enumU {X : Cx} {e : Expr} {ta : TA} {p pos tpos : Pos} {elts : List Expr} {kk : Nat} (hg : Gl X "enumerate") (hm : X.mg "enumerate" = none) (ha : PA X [e] ta) (hs : starEach [e] X.env = [(false, eval e X.env)] := by rfl) :
    PI X (.Tuple elts kk tpos) (.Call (.Name "enumerate" p) [e] [] pos) (iEnumU X.K ta) := ⟨fun pins s σ H R I h => by
  refine Call_ (ld_blt I hg hm boot_enumerate (PyProof.Rows.callWith_type1 (thn (ha.run pos pins s σ H _ I h) fun us s1 ⟨vs, H1, I1, r1, a, xs, ex, q⟩ => ?_) hs rfl))
  subst ex
  cases r1 with
  | cons r rr =>
    cases rr
    cases r
    have fpo : ∀ b ∈ [s1.heap.objs.size + 1, s1.heap.objs.size], s1.heap.objs.size ≤ b := fun b hb => by
      rcases (show b = s1.heap.objs.size + 1 ∨ b = s1.heap.objs.size by simpa using hb) with z | z <;> (rw [z]; omega)
    rcases q with ⟨hq, q⟩ | ⟨hq, q⟩
    · obtain ⟨its, rv, p', hz⟩ := I1.list hq
      refine enum_call1 (begins_list a its.toArray) p'.isList fun g' he hit hk => wpAny_pyIter_enum he ?_
      exact ⟨s1.heap.objs.size + 1, [s1.heap.objs.size + 1, s1.heap.objs.size], _, _, H1, rfl, I1.kept (t' := s1.toks) hk, turn_enum a (s1.heap.objs.size + 1) s1.heap.objs.size, ⟨⟨.none, he⟩, ⟨_, hit, rfl, rfl⟩, Nat.succ_ne_self _⟩, fun b hb => I1.fpOk (fpo b hb) (I1.hok.fresh (fpo b hb)), q⟩
    · obtain ⟨its, rv, p', hz⟩ := I1.tuple hq
      refine enum_call1 (begins_tuple a its.toArray) p' fun g' he hit hk => wpAny_pyIter_enum he ?_
      exact ⟨s1.heap.objs.size + 1, [s1.heap.objs.size + 1, s1.heap.objs.size], _, _, H1, rfl, I1.kept (t' := s1.toks) hk, turn_enumT a (s1.heap.objs.size + 1) s1.heap.objs.size, ⟨⟨.none, he⟩, ⟨_, hit, rfl, rfl⟩, Nat.succ_ne_self _⟩, fun b hb => I1.fpOk (fpo b hb) (I1.hok.fresh (fpo b hb)), q⟩⟩
/-- the items, numbered -/
def enumL (xs : List D) : List D := xs.mapIdx fun i d => .tup [.int (i : Int), d]
def enOf (R : List D → Prop) : D → Prop
  | .lst xs => R (enumL xs)
  | .tup xs => R (enumL xs)
  | _ => False
section
variable {K : PySem.W.Frag} {B fp : List Addr} {F F1 H H1 : Hp}
theorem enumL_len {xs : List D} : (enumL xs).length = xs.length := by unfold enumL; rw [List.length_mapIdx]
theorem enumL_get {xs : List D} {i : Nat} {d : D} (h : xs[i]? = some d) : (enumL xs)[i]? = some (.tup [.int (i : Int), d]) := by unfold enumL; rw [List.getElem?_mapIdx, h]; rfl
theorem itD_enL {a : Addr} {vs : List V} {xs : List D} (hF : ∀ a ∈ fp, F1 a = none) (w : WF B F1 H1) (h : F1 a = some (.lst vs)) (r : RL K F1 vs xs) : ItD K B (prot B fp H1) F1 (Ite K a) (enumL xs) := by
  intro i F H w' sz sf
  obtain ⟨x, ex, er⟩ := protF hF w h
  have hs : SqL K H a vs := .inl (rd_of_er (sz a x ex) er)
  have rl := r.mono sf
  rw [enumL_len]
  refine ⟨fun hi => ?_, fun hi => ⟨vs, hs, by rw [r.length]; exact hi⟩⟩
  have hi' : i < vs.length := by rw [r.length]; exact hi
  refine ⟨⟨vs, vs[i], hs, by simp [hi']⟩, fun y H' ⟨T, x, ey, eT, eH, hy⟩ => ?_⟩
  subst ey
  subst eH
  obtain ⟨d, ed, rd⟩ := rl.getV (hy vs hs)
  have s := Step.laidF (A := []) w' eT (o := .tup [.int (i : Nat), x]) rfl
  exact ⟨_, _, enumL_get ed, s, .tup upd_same (.cons (.int _) (.cons (rd.mono s.fs) .nil))⟩
theorem itD_enT {a : Addr} {vs : List V} {xs : List D} (hF : ∀ a ∈ fp, F1 a = none) (w : WF B F1 H1) (h : F1 a = some (.tup vs)) (r : RL K F1 vs xs) : ItD K B (prot B fp H1) F1 (Itet K a) (enumL xs) := by
  intro i F H w' sz sf
  obtain ⟨x, ex, er⟩ := protF hF w h
  have hs : SqT K H a vs := .inl (rd_of_er (sz a x ex) er)
  have rl := r.mono sf
  rw [enumL_len]
  refine ⟨fun hi => ?_, fun hi => ⟨vs, hs, by rw [r.length]; exact hi⟩⟩
  have hi' : i < vs.length := by rw [r.length]; exact hi
  refine ⟨⟨vs, vs[i], hs, by simp [hi']⟩, fun y H' ⟨T, x, ey, eT, eH, hy⟩ => ?_⟩
  subst ey
  subst eH
  obtain ⟨d, ed, rd⟩ := rl.getV (hy vs hs)
  have s := Step.laidF (A := []) w' eT (o := .tup [.int (i : Nat), x]) rfl
  exact ⟨_, _, enumL_get ed, s, .tup upd_same (.cons (.int _) (.cons (rd.mono s.fs) .nil))⟩
end
theorem di_enum {X : Cx} {e : Expr} {f : FE} {p pos tpos : Pos} {elts : List Expr} {kk : Nat} (hz : X.mg "enumerate" = none) (h : DE X B e (.own 0) f) (hg : Gl X "enumerate" := by rfl) (hs : starEach [e] X.env = [(false, eval e X.env)] := by rfl) (hs' : starEach [e] X.env = (false, eval e X.env) :: starEach [] X.env := by rfl) :
    DI X B (.Tuple elts kk tpos) (.Call (.Name "enumerate" p) [e] [] pos) (fun ρ R => f ρ (enOf R)) :=
  PI.imp (pi_enumU hg hz (da_cons h da_nil hs') hs) fun σ H R ⟨F, ρ, fp, Rx, S, hf, k⟩ => ⟨F, ρ, fp, fun ds => ∃ d, ds = [d] ∧ enOf Rx d, S, by
    show f ρ fun x => ∃ d, [x] = [d] ∧ enOf Rx d
    have : (fun x => ∃ d, [x] = [d] ∧ enOf Rx d) = enOf Rx := by
      funext x
      exact propext ⟨fun ⟨d, e, h⟩ => by cases e; exact h, fun h => ⟨x, rfl, h⟩⟩
    rw [this]; exact hf, fun F1 H1 vs ds f1 s1 hv o1 n1 ⟨d, ed, hR⟩ => by
    subst ed
    obtain ⟨v, rfl, h1⟩ := hv.one
    have h1 : GK.R X.K F1 v d := (show Own X.K F1 H1 0 v d f1 from h1).1
    cases d <;> try exact (show False from hR).elim
    · obtain ⟨a, vs, rfl, ht, r⟩ := h1.tupI
      exact ⟨a, vs, rfl, .inr ⟨tup_sub s1.wf ht, k _ F1 H1 _ s1 (itD_enT (outF (S.step s1 fun a h => by cases h)) s1.wf ht r) hR⟩⟩
    · obtain ⟨a, vs, rfl, ht, r⟩ := h1.lstI
      exact ⟨a, vs, rfl, .inl ⟨lst_sub s1.wf ht, k _ F1 H1 _ s1 (itD_enL (outF (S.step s1 fun a h => by cases h)) s1.wf ht r) hR⟩⟩⟩
end GK

namespace GK
open PySem PySem.Spec PyProof.Rows L2

/-! ### nested targets; tuples of what is owned; a dict of one pair -/
def tg2 (t u : D → Env → Option Env) : D → Env → Option Env := fun d ρ => match d with
  | .tup [x, y] => (t x ρ).bind (u y)
  | _ => none
section
variable {X : Cx} {pin : Nat} {pos : Pos}
theorem dg_tup2 {ea eb : Expr} {k : Nat} {t u : D → Env → Option Env} (hc : X.calm = true) (ha : DG X pin ea t) (hb : DG X pin eb u) (hs : (assignEach [ea, eb] X.env).map (·.2) = assign ea X.env :: (assignEach [eb] X.env).map (·.2) := by rfl) (hs2 : (assignEach [eb] X.env).map (·.2) = assign eb X.env :: (assignEach [] X.env).map (·.2) := by rfl)
    (hn : (assignEach [ea, eb] X.env).length = 2 := by rfl) (hst : (assignEach [ea, eb] X.env).findIdx? (·.1) = none := by rfl) : DG X pin (.Tuple [ea, eb] k pos) (tg2 t u) := by
  obtain ⟨ga, pa, ka⟩ := ha.ok
  obtain ⟨gb, pb, kb⟩ := hb.ok
  refine ⟨_, pg_tup hc (pgs_cons pa (pgs_cons pb pgs_nil hs2) hs) hn hst, fun B Pn Z0 F0 F H σ ρ ρ' fp v d hpl S r e Q k => ?_⟩
  unfold tg2 at e
  split at e
  · rename_i x y
    obtain ⟨ρ1, e1, e2⟩ := Option.bind_eq_some_iff.mp e
    obtain ⟨a, vs, rfl, ht, rl⟩ := r.tupI
    cases rl with
    | cons r1 rl =>
      cases rl with
      | cons r2 rl =>
        cases rl
        exact ⟨a, _, rfl, tup_sub S.wf ht, rfl, _, _, rfl, ka B Pn Z0 F0 F H σ ρ ρ1 fp _ _ hpl S r1 e1 _ fun σ1 fp1 S1 => ⟨_, _, rfl, kb B Pn Z0 F0 F H σ1 ρ1 ρ' fp1 _ _ hpl S1 r2 e2 _ fun σ2 fp2 S2 => ⟨rfl, k σ2 fp2 S2⟩⟩⟩
  · cases e
end
section
variable {K : PySem.W.Frag} {B A fp : List Addr} {Pn : List V} {Z0 F0 F F' H H' : Hp} {σ : L2.St} {ρ : Env} {m : Mode} {n : Nat}
theorem StOk.setS {v : V} {d : D} {f : List Addr} {i : Nat} (S : StOk K B Pn Z0 F0 F H σ ρ fp) (h : Own K F H n v d f) (ap : Apart B Z0 F fp f) (hi : i < ρ.length) (hp : Pn.length ≤ i) :
    ∃ fp', StOk K B Pn Z0 F0 F H (σ.set i (some v)) (ρ.set i (some (n, d))) fp' ∧ ∀ a ∈ fp', a ∈ fp ∨ a ∈ f := by
  obtain ⟨fp', o', nd', sub⟩ := OwnE.set (i := i) h S.own (List.nodup_append.mpr ⟨S.nd, ap.2, fun a ha b hb e => (ap.1 b hb).2.2.2 (e ▸ ha)⟩) hi
  refine ⟨fp', ⟨S.wf, o', nd', fun a ha => ?_, S.z, S.zB, S.f, S.fr, fun j w e => ?_⟩, sub⟩
  · rcases sub a ha with z | z
    · exact S.out a z
    · exact ⟨(ap.1 a z).1, (ap.1 a z).2.1, (ap.1 a z).2.2.1⟩
  · have := (List.getElem?_eq_some_iff.mp e).1
    rw [List.getElem?_set_ne (by omega)]
    exact S.pn j w e
end
section
variable {X : Cx} {pin n i j : Nat} {pos p1 p2 : Pos} {x y : Str} {mr : Mode}
theorem mTake_inv {i n : Nat} {ρ : Env} {R : D → Env → Prop} (h : mTake i n ρ R) : ∃ d, slot ρ i = some (n, d) ∧ R d (ρ.set i none) := by
  unfold mTake at h
  split at h
  · rename_i k d e
    obtain ⟨rfl, h⟩ := h
    exact ⟨d, e, h⟩
  · exact h.elim
/-- (x, y), both taken -/
theorem dm_tupTT (i j n : Nat) {k : Nat} (hN : NameOk X i x := by exact ⟨rfl, by first | exact Or.inl rfl | exact Or.inr (Or.inl rfl) | exact Or.inr (Or.inr rfl), by decide, by decide⟩) (hM : NameOk X j y := by exact ⟨rfl, by first | exact Or.inl rfl | exact Or.inr (Or.inl rfl) | exact Or.inr (Or.inr rfl), by decide, by decide⟩)
    (hs : starEach [.Name x p1, .Name y p2] X.env = (false, eval (.Name x p1) X.env) :: starEach [.Name y p2] X.env := by rfl) (hs2 : starEach [.Name y p2] X.env = (false, eval (.Name y p2) X.env) :: starEach [] X.env := by rfl) :
    DM X B (.Tuple [.Name x p1, .Name y p2] k pos) pin (.own (n + 1)) (fun ρ R => mTake i n ρ fun d ρ1 => mTake j n ρ1 fun e ρ2 => R (.tup [d, e]) ρ2) :=
  PE.imp (pe_tup (pa_cons (pe_var hN.1 hN.2 hN.3 hN.4) (pa_cons (pe_var hM.1 hM.2 hM.3 hM.4) pa_nil hs2) hs)) fun σ H Q ⟨Pn, Z0, F0, F, ρ, fp, R, hpl, S, hf, k⟩ => by
    obtain ⟨d, q, hf⟩ := mTake_inv (show mTake i n ρ _ from hf)
    obtain ⟨v, f, fp1, e1, o1, S1, ap1, sub1⟩ := S.take q
    obtain ⟨e, q2, hR⟩ := mTake_inv (show mTake j n (ρ.set i none) _ from hf)
    obtain ⟨u, g, fp2, e2, o2, S2, ap2, sub2⟩ := S1.take q2
    refine ⟨v, e1, u, e2, by show 2 ≤ sizeLine; decide, fun p hp => ?_⟩
    have st := Step.laidF (A := []) S2.wf hp (o := .tup [v, u]) rfl
    have S3 := S2.step st fun a h => (by cases h)
    have np : ∀ {v' d' f'}, Own X.K F H n v' d' f' → ∀ a ∈ f', a ≠ p := fun o a ha z => by
      obtain ⟨ob, eo, _⟩ := o.there a ha
      rw [z, hp] at eo; cases eo
    refine k _ _ _ fp2 (.ref p) (.tup [d, e]) (f ++ g) S3 ⟨p, [v, u], rfl, upd_same, f, g, rfl, Own.mono st.fs (fun a ha o eo => by rw [upd_ne (np o1 a ha)]; exact eo) o1, g, [], (List.append_nil g).symm, Own.mono st.fs (fun a ha o eo => by rw [upd_ne (np o2 a ha)]; exact eo) o2, rfl⟩ ⟨fun a ha => ?_, ?_⟩ hR
    · rcases List.mem_append.mp ha with z | z
      · obtain ⟨r1, r2, r3, r4⟩ := ap1.1 a z
        refine ⟨?_, r2, r3, fun z2 => r4 (sub2 a (List.mem_append_left _ z2))⟩
        rw [upd_ne (np o1 a z)]; exact r1
      · obtain ⟨r1, r2, r3, r4⟩ := ap2.1 a z
        refine ⟨?_, r2, r3, r4⟩
        rw [upd_ne (np o2 a z)]; exact r1
    · exact List.nodup_append.mpr ⟨ap1.2, ap2.2, fun a ha b hb z => (ap1.1 a ha).2.2.2 (sub2 a (List.mem_append_right _ (z ▸ hb)))⟩
/-- (x, None), x taken -/
theorem dm_tupTN (i n : Nat) {k jj : Nat} (hN : NameOk X i x := by exact ⟨rfl, by first | exact Or.inl rfl | exact Or.inr (Or.inl rfl) | exact Or.inr (Or.inr rfl), by decide, by decide⟩)
    (hs : starEach [.Name x p1, .Constant .none jj p2] X.env = (false, eval (.Name x p1) X.env) :: starEach [.Constant .none jj p2] X.env := by rfl) (hs2 : starEach [.Constant .none jj p2] X.env = (false, eval (.Constant .none jj p2) X.env) :: starEach [] X.env := by rfl) :
    DM X B (.Tuple [.Name x p1, .Constant .none jj p2] k pos) pin (.own (n + 1)) (fun ρ R => mTake i n ρ fun d ρ1 => R (.tup [d, .non]) ρ1) :=
  PE.imp (pe_tup (pa_cons (pe_var hN.1 hN.2 hN.3 hN.4) (pa_cons pe_non pa_nil hs2) hs)) fun σ H Q ⟨Pn, Z0, F0, F, ρ, fp, R, hpl, S, hf, k⟩ => by
    obtain ⟨d, q, hR⟩ := mTake_inv (show mTake i n ρ _ from hf)
    obtain ⟨v, f, fp1, e1, o1, S1, ap1, sub1⟩ := S.take q
    refine ⟨v, e1, by show 2 ≤ sizeLine; decide, fun p hp => ?_⟩
    have st := Step.laidF (A := []) S1.wf hp (o := .tup [v, .non]) rfl
    have S3 := S1.step st fun a h => (by cases h)
    have np : ∀ a ∈ f, a ≠ p := fun a ha z => by
      obtain ⟨ob, eo, _⟩ := o1.there a ha
      rw [z, hp] at eo; cases eo
    have on : Own X.K (upd F p (.tup [v, .non])) (upd H p (.tup [v, .non])) n .non .non [] := by cases n <;> exact ⟨.non, rfl⟩
    refine k _ _ _ fp1 (.ref p) (.tup [d, .non]) f S3 ⟨p, [v, .non], rfl, upd_same, f, [], (List.append_nil f).symm, Own.mono st.fs (fun a ha o eo => by rw [upd_ne (np a ha)]; exact eo) o1, [], [], rfl, on, rfl⟩ ⟨fun a ha => ?_, ap1.2⟩ hR
    obtain ⟨r1, r2, r3, r4⟩ := ap1.1 a ha
    refine ⟨?_, r2, r3, r4⟩
    rw [upd_ne (np a ha)]; exact r1
/-- x, y = e, what e gives is owned -/
theorem ds_asgO {e : Expr} {f : FM} {k : Nat} (i j n : Nat) (hc : X.calm = true) (he : DM X B e pin (.own (n + 1)) f) (hN : X.N.Nodup) (hi : X.N[i]? = some x) (hx : Loc X.env.scope x) (hp : pin ≤ i) (hj : X.N[j]? = some y) (hy : Loc X.env.scope y) (hp2 : pin ≤ j)
    (hs : swapsWithSole [.Tuple [.Name x p1, .Name y p2] k pos] e pos'.line X.env = pure false := by rfl) (hw : swappedStores [.Tuple [.Name x p1, .Name y p2] k pos] e X.env = pure none := by rfl)
    (h1 : (assignEach [.Tuple [.Name x p1, .Name y p2] k pos] X.env).map (·.2) = [assign (.Tuple [.Name x p1, .Name y p2] k pos) X.env] := by rfl)
    (hf1 : X.fn x = true ∨ X.env.scope.names.lookup x = some .local := by first | exact .inl rfl | exact .inr rfl | assumption) (hf2 : X.fn y = true ∨ X.env.scope.names.lookup y = some .local := by first | exact .inl rfl | exact .inr rfl | assumption)
    (hs1 : (assignEach [.Name x p1, .Name y p2] X.env).map (·.2) = assign (.Name x p1) X.env :: (assignEach [.Name y p2] X.env).map (·.2) := by rfl) (hs2 : (assignEach [.Name y p2] X.env).map (·.2) = assign (.Name y p2) X.env :: (assignEach [] X.env).map (·.2) := by rfl)
    (hn : (assignEach [.Name x p1, .Name y p2] X.env).length = 2 := by rfl) (hst : (assignEach [.Name x p1, .Name y p2] X.env).findIdx? (·.1) = none := by rfl) :
    DS X B (.Assign [.Tuple [.Name x p1, .Name y p2] k pos] e pos') pin mr (fun E ρ => f ρ fun d ρ' => ∃ a b, d = .tup [a, b] ∧ i < ρ'.length ∧ j < ρ'.length ∧ E.nx ((ρ'.set i (some (n, a))).set j (some (n, b)))) :=
  PS.imp (ps_asg he (pg_tup hc (pgs_cons (pg_name hN hi hx hf1) (pgs_cons (pg_name hN hj hy hf2) pgs_nil hs2) hs1) hn hst) hs hw h1) fun Dn σ H ⟨Pn, Z0, F0, F, ρ, fp, E, hpl, S, hf, L⟩ => by
    refine ⟨Pn, Z0, F0, F, ρ, fp, _, hpl, S, hf, fun F' H' ρ' fp' v d f' S' hv ap ⟨a, b, ed, li, lj, hR⟩ => ?_⟩
    subst ed
    obtain ⟨p, vs, rfl, hp', ow⟩ := (show Own X.K F' H' (n + 1) v (.tup [a, b]) f' from hv)
    match vs, ow with
    | [v1, v2], ⟨f1, f2, ef, o1, f3, f4, ef2, o2, ef3⟩ =>
      have ef3 : f4 = [] := ef3
      subst ef3
      rw [List.append_nil] at ef2
      subst ef2
      subst ef
      obtain ⟨nd1, nd2, nd3⟩ := List.nodup_append.mp ap.2
      obtain ⟨fp1, S1, sub1⟩ := S'.setS o1 (i := i) ⟨fun a ha => ap.1 a (List.mem_append_left _ ha), nd1⟩ li (by omega)
      obtain ⟨fp2, S2, sub2⟩ := S1.setS o2 (i := j) ⟨fun a ha => by
        obtain ⟨r1, r2, r3, r4⟩ := ap.1 a (List.mem_append_right _ ha)
        exact ⟨r1, r2, r3, fun z => (sub1 a z).elim r4 fun z => nd3 a z a ha rfl⟩, nd2⟩ (by rw [List.length_set]; exact lj) (by omega)
      exact ⟨p, [v1, v2], rfl, tup_sub S'.wf hp', rfl, v1, [v2], rfl, v2, [], rfl, rfl, L.nx F' H' _ _ fp2 S2 hR⟩
/-- {k: v} -/
theorem de_disp1 {ek ev : Expr} {f f' : FE} (hk : DE X B ek (.own 0) f) (hv : DE X B ev (.own 0) f') : DE X B (.Dict [some ek] [ev] pos) (.own 1) (fun ρ R => f ρ fun kd => f' ρ fun vd => ∃ k, keyOf kd = some k ∧ R (.dK [(k, vd)])) :=
  PE.imp (pe_disp (pps_cons hk hv pps_nil) rfl rfl (by simp) (by simp)) fun σ H Q ⟨F, ρ, fp, R, S, hf, k⟩ p hp => by
    have s0 := Step.laid (A := []) S.wf hp (o := .dK []) rfl
    have S0 := S.step s0 fun a h => (by cases h)
    have pB := S.wf.notB hp
    have pF := F_none S.wf hp
    refine ⟨F, ρ, fp, _, S0, hf, fun F1 H1 kv kd f1 s1 hkv o1 n1 hg => ⟨F1, ρ, fp, _, S0.step s1 (fun a h => by cases h), hg, fun F2 H2 vv vd f2 s2 hvv o2 n2 ⟨key, ek, hR⟩ => ?_⟩⟩
    have e1 := s1.same p _ pB upd_same
    have e2 := s2.same p _ pB e1
    have pF1 := s1.out upd_same trivial pB pF (fun z => by cases z)
    have pF2 := s2.out e1 trivial pB pF1 (fun z => by cases z)
    have hkv : GK.R X.K F1 kv kd := (show Own X.K F1 H1 0 kv kd f1 from hkv).1
    have hvv : GK.R X.K F2 vv vd := (show Own X.K F2 H2 0 vv vd f2 from hvv).1
    refine ⟨e2, [(key, vv)], ?_, by simp, ?_⟩
    · rw [keyOf_R ek hkv]; rfl
    · have st := ((s0.trans s1 fun a h => by cases h).trans s2 fun a h => by cases h).mutNew hp pF2 pB (o := .dK (mergeK [] [(key, vv)])) rfl
      refine k F2 _ (.ref p) (.dK [(key, vd)]) [p] st ⟨p, [(key, vv)], [], rfl, upd_same, rfl, rfl, OwnL.zero (.cons hvv .nil)⟩ (fun a ha => ?_) (by simp) hR
      rw [List.mem_singleton.mp ha]
      exact ⟨.inr hp, pF2, pB⟩
end
end GK

namespace GK
open PySem PySem.Spec PyProof.Rows L2

/-! ### xs[::-1]; list of a list or a tuple; is True, is False -/
section
variable {X : Cx} {e : Expr} {p p1 p2 p3 pos : Pos} {m m1 : Mode} {f : FE} {k : Nat}
theorem de_revL (he : DE X B e m1 f) (h1 : m1.flat1 = true := by rfl) : DE X B (.Subscript e (.Slice none none (some (.UnaryOp .USub (.Constant (.int 1) k p1) p2)) p3) pos) (.own 1) (fun ρ R => f ρ (xsOf fun ds => R (.lst ds.reverse))) :=
  PE.imp (pe_revL he) fun σ H Q ⟨F, ρ, fp, R, S, hf, k⟩ => by
    refine ⟨F, ρ, fp, _, S, hf, fun F1 H1 v d f1 s1 hv o1 n1 hd => ?_⟩
    cases d <;> try exact (show False from hd).elim
    obtain ⟨a, vs, rfl, ha, r⟩ := hv.lstRL h1 s1.wf
    exact ⟨a, vs, rfl, SqL.of ha, fun q hq => (k.after s1 (A1 := []) fun a h => by cases h).newLst0 s1.wf r.reverse hd hq⟩
def gListU : List D → (D → Prop) → Prop
  | [.lst ds], R => R (.lst ds)
  | [.tup ds], R => R (.lst ds)
  | _, _ => False
theorem opN_listU {K : PySem.W.Frag} : OpN K (fun xs H Q => ∃ p ys, xs = [.ref p] ∧ (SqL K H p ys ∨ SqT K H p ys) ∧ ∀ l, H l = none → Q (.ref l) (upd H l (.lst ys))) [.own 0] (.own 1) gListU := by
  intro B F H vs ds fp R Q w hv hf hg k
  unfold gListU at hg
  split at hg
  · obtain ⟨v, rfl, h⟩ := hv.one
    obtain ⟨a, xs, rfl, ha, r⟩ := (show GK.R K F v _ from h.1).lstI
    exact ⟨a, xs, rfl, .inl (sqL_rd (w.sub _ _ ha)), fun l hl => k.newLst0 w r hg hl⟩
  · obtain ⟨v, rfl, h⟩ := hv.one
    obtain ⟨a, xs, rfl, ha, r⟩ := (show GK.R K F v _ from h.1).tupI
    exact ⟨a, xs, rfl, .inr (sqT_rd (w.sub _ _ ha)), fun l hl => k.newLst0 w r hg hl⟩
  · exact hg.elim
theorem de_listU (hz : X.mg "list" = none) (ha : DE X B e (.own 0) f) (hg : Gl X "list" := by rfl) (he : starEach [e] X.env = (false, eval e X.env) :: starEach [] X.env := by rfl) (hpl : (backTo pos (starEach [] X.env)).any (·.1) = false := by rfl) :
    DE X B (.Call (.Name "list" p) [e] [] pos) (.own 1) (fArgs gListU (fCons f fNil)) := de_Ty call_list_of opN_listU hg hz (by decide +kernel) (da_cons ha da_nil he) (by decide) (by decide) he hpl
end
end GK
namespace GK
open PySem PySem.Spec PyProof.Rows L2
theorem de_isiK {X : Cx} {e e2 : Expr} {p pos : Pos} {m m1 m2 : Mode} {f f' : FE} (K : PySem.W.Frag) (hK : X.K = K) (hz : X.mg "isinstance" = none) (ha : DE X B e m1 f) (hb : DE X B e2 m2 f') (hm : m1.look = true := by rfl) (hg : Gl X "isinstance" := by rfl) (he : starEach [e, e2] X.env = (false, eval e X.env) :: starEach [e2] X.env := by rfl) (he2 : starEach [e2] X.env = (false, eval e2 X.env) :: starEach [] X.env := by rfl) (hpl : (backTo pos (starEach [e2] X.env)).any (·.1) = false := by rfl) :
    DE X B (.Call (.Name "isinstance" p) [e, e2] [] pos) m (fArgs (gIsi K) (fCons f (fCons f' fNil))) := by
  subst hK
  exact de_isi hz ha hb hm hg he he2 hpl
end GK

namespace GK
open PySem PySem.Spec PyProof.Rows L2

/-! ### small steps through data -/
theorem szL : sizeLine = 16777216 := by decide
theorem draw_go {B : List Addr} {b : Addr} {size : Int} {R : D → Prop} (hb : B.head? = some b) (h0 : 0 < size) (h1 : size < 2 ^ 64) (h : ∀ r : Int, 0 ≤ r → r < size → R (.int r)) : wDraw B [.raw (.ref b), .int size] R := by
  refine ⟨b, size, hb, rfl, h0, ?_, h⟩
  have : size.natAbs.log2 < 64 := (Nat.log2_lt (by omega)).mpr (by omega)
  omega
abbrev natD (i : Nat) : D := .int (i : Int)
theorem ixN_nat {n k : Nat} (h : k < n) : ixN n (k : Int) = some k := by
  unfold ixN
  rw [if_pos (by omega), if_pos (by omega)]; rfl
theorem ixN_int {n : Nat} {i : Int} (h0 : 0 ≤ i) (h1 : i < n) : ixN n i = some i.toNat := by
  unfold ixN
  rw [if_pos h0, if_pos h1]
theorem gIx_tl {xs : List D} {k : Nat} {d : D} {R : D → Prop} (h : xs[k]? = some d) (q : R d) : gIx (.tup xs) (.int (k : Int)) R := by
  refine ⟨d, ?_, q⟩
  have hk := (List.getElem?_eq_some_iff.mp h).1
  unfold atI
  rw [ixN_nat hk]; exact h
/-- a list or a tuple of these -/
def isSeq (d : D) (xs : List D) : Prop := d = .lst xs ∨ d = .tup xs
theorem gIx_seq {e : D} {xs : List D} {k : Nat} {d : D} {R : D → Prop} (s : isSeq e xs) (h : xs[k]? = some d) (q : R d) : gIx e (.int (k : Int)) R := by
  rcases s with rfl | rfl
  · exact gIx_nat h q
  · exact gIx_tl h q
theorem gIx_last {ds : List D} {x : D} {R : D → Prop} (q : R x) : gIx (.lst (ds ++ [x])) (.int (-1)) R := by
  refine ⟨x, ?_, q⟩
  unfold atI ixN
  rw [if_neg (by decide), if_pos (by rw [List.length_append, List.length_singleton]; omega)]
  show (ds ++ [x])[(-1 + ((ds ++ [x]).length : Int)).toNat]? = some x
  have e : (-1 + ((ds ++ [x]).length : Int)).toNat = ds.length := by rw [List.length_append, List.length_singleton]; omega
  rw [e]
  simp
theorem gIx_t2 {a b c : D} {r : List D} {R : D → Prop} : gIx (.tup (a :: b :: c :: r)) (.int 2) R = R c := by
  show (∃ d, atI (a :: b :: c :: r) 2 = some d ∧ R d) = R c
  rw [atI_2]; exact ex_some
theorem rangeD0 (n : Nat) : rangeD 0 n = (List.range n).map natD := by
  unfold rangeD
  refine List.map_congr_left fun i _ => ?_
  show D.int (0 + (i : Int)) = D.int (i : Int)
  rw [Int.zero_add]
theorem gEqA_no {n : Bool} {i : Int} {R : D → Prop} : gEqA n .non (.int i) R = R (.bl (n ^^ false)) := rfl
theorem gIsN_lst {n : Bool} {es : List D} {R : D → Prop} : gIsN n (.lst es) .non R = R (.bl n) := rfl
theorem gIsN_tup {n : Bool} {es : List D} {R : D → Prop} : gIsN n (.tup es) .non R = R (.bl n) := rfl
theorem enOf_seq {e : D} {xs : List D} {R : List D → Prop} (s : isSeq e xs) (q : R (enumL xs)) : enOf R e := by
  rcases s with rfl | rfl <;> exact q
theorem enumL_cons' {xs : List D} {k : Nat} {x : D} {r : List D} (h : xs.drop k = x :: r) : (enumL xs).drop k = .tup [natD k, x] :: (enumL xs).drop (k + 1) := by
  have hk : k < xs.length := by
    have := congrArg List.length h
    rw [List.length_drop, List.length_cons] at this
    omega
  have hx : xs[k]? = some x := by
    have := congrArg (fun l => l[0]?) h
    rw [List.getElem?_drop] at this
    simpa using this
  have hl : k < (enumL xs).length := by rw [enumL_len]; exact hk
  rw [List.drop_eq_getElem_cons hl]
  congr 1
  have e := enumL_get hx
  rw [List.getElem?_eq_getElem hl] at e
  exact Option.some.inj e
theorem dnE {x y : Nat} : decide ((x : Int) = (y : Int)) = decide (x = y) := by
  by_cases h : x = y
  · rw [decide_eq_true h, decide_eq_true (by rw [h])]
  · rw [decide_eq_false h, decide_eq_false (by omega)]
theorem dnL {x y : Nat} : decide ((x : Int) < (y : Int)) = decide (x < y) := by
  by_cases h : x < y
  · rw [decide_eq_true h, decide_eq_true (by omega)]
  · rw [decide_eq_false h, decide_eq_false (by omega)]
theorem neg_go {i : Int} {R : D → Prop} (q : R (.int (-i))) : g1I (fun i => .int (-i)) (.int i) R := q
end GK
namespace GK
open PySem PySem.Spec PyProof.Rows L2
theorem rng_go {n : Nat} {R : List D → Prop} (h : n < 2 ^ 62) (q : R ((List.range' 0 n).map natD)) : rng1 R (.int (n : Int)) := by
  refine ⟨by omega, by omega, ?_⟩
  rw [Int.toNat_natCast, rangeD0, List.range_eq_range']
  exact q
theorem rng2_go {a b : Nat} {R : List D → Prop} (h : a < 2 ^ 62) (h2 : b < 2 ^ 62) (q : R ((List.range' a (b - a)).map natD)) : rng2 R (.int (a : Int)) (.int (b : Int)) := by
  refine ⟨⟨by omega, by omega, by omega, by omega⟩, ?_⟩
  have e : rangeD (a : Int) ((b : Int) - (a : Int)).toNat = (List.range' a (b - a)).map natD := by
    rw [show ((b : Int) - (a : Int)).toNat = b - a by omega]
    unfold rangeD
    rw [List.range'_eq_map_range, List.map_map]
    refine List.map_congr_left fun i _ => ?_
    show D.int ((a : Int) + (i : Int)) = D.int ((a + i : Nat) : Int)
    rw [Int.natCast_add]
  rw [e]; exact q
end GK
namespace GK
open PySem PySem.Spec PyProof.Rows L2
theorem atP_go {ρ : Env} {i n : Nat} {p : List PSt} {d x : D} {k : Nat → D → D → Prop} (e : slot ρ i = some (n + 1 + p.length, d)) (h : subP d p = some x) (q : k n d x) : atP ρ i p k := by
  unfold atP
  rw [e]
  exact ⟨n, x, rfl, h, q⟩
theorem atLst_go {ρ : Env} {i n : Nat} {p : List PSt} {d : D} {ds : List D} {k : D → List D → Prop} (e : slot ρ i = some (n + 1 + p.length, d)) (h : subP d p = some (.lst ds)) (q : k d ds) : atLst ρ i n p k := atP_go e h ⟨rfl, q⟩
theorem sub_ix {ds : List D} {k : Nat} {d : D} (h : ds[k]? = some d) : subP (.lst ds) [.ix k] = some d := by
  show (ds[k]?).bind _ = _
  rw [h]; rfl
theorem set_ix {ds : List D} {k : Nat} {d x : D} (h : ds[k]? = some d) : setP (.lst ds) [.ix k] x = .lst (ds.set k x) := by
  unfold setP
  rw [show subD (.lst ds) (.ix k) = some d from h]
  rfl
theorem fm_const {Z : Type} {x : D} : ∀ (l : List Z), l.filterMap (fun _ => some x) = List.replicate l.length x
  | [] => rfl
  | z :: l => by rw [List.filterMap_cons, fm_const l, List.length_cons, List.replicate_succ]
end GK
namespace GK
open PySem PySem.Spec PyProof.Rows L2
theorem drawN {B : List Addr} {b : Addr} {R : D → Prop} (s : Nat) (hb : B.head? = some b) (h0 : 0 < s) (h1 : s < 2 ^ 62) (h : ∀ r : Nat, r < s → R (natD r)) : wDraw B [.raw (.ref b), .int (s : Int)] R :=
  draw_go hb (by omega) (by omega) fun r r0 r1 => by
    have := h r.toNat (by omega)
    rwa [show natD r.toNat = .int r from congrArg D.int (Int.toNat_of_nonneg r0)] at this
theorem iOf_int {R : Option Int → Prop} {i : Int} : iOf R (.int i) = R (some i) := rfl
theorem gSlL_to {ds : List D} {k : Nat} {R : D → Prop} (h : k ≤ ds.length) : gSlL (.lst ds) none (some (k : Int)) R = R (.lst (ds.take k)) := by
  show R (.lst (cutD ds none (some (k : Int)))) = _
  unfold cutD
  rw [HT.sIx_none, HT.sIx_nat, List.drop_zero, Nat.sub_zero, Nat.min_eq_left h]
theorem fm_none {Z : Type} : ∀ (l : List Z), l.filterMap (fun _ => (none : Option D)) = []
  | [] => rfl
  | z :: l => fm_none l
theorem gSum_ints {ns : List Int} {R : D → Prop} (q : R (.int ns.sum)) : gSum [.lst (ns.map D.int)] R := by
  refine ⟨ns, ?_, q⟩
  induction ns with
  | nil => rfl
  | cons n ns ih =>
    show (intsOf (ns.map D.int)).map (n :: ·) = _
    have : intsOf (ns.map D.int) = some ns := by
      clear ih q
      induction ns with
      | nil => rfl
      | cons m ms ih2 => show (intsOf (ms.map D.int)).map (m :: ·) = _; rw [ih2]; rfl
    rw [this]; rfl
theorem any_nats {x : Nat} : ∀ {ys : List Nat}, ((ys.map natD).any fun z => eqF z (natD x)) = decide (x ∈ ys)
  | [] => rfl
  | y :: ys => by
    rw [List.map_cons, List.any_cons, any_nats]
    show (((y : Int) == (x : Int)) || decide (x ∈ ys)) = decide (x ∈ y :: ys)
    by_cases h : y = x
    · subst h; simp
    · have h2 : ¬ (y : Int) = (x : Int) := fun z => h (Int.ofNat.inj z)
      have h3 : ((y : Int) == (x : Int)) = false := by simp [h2]
      rw [h3, Bool.false_or]
      by_cases m : x ∈ ys
      · rw [decide_eq_true m, decide_eq_true (List.mem_cons_of_mem _ m)]
      · rw [decide_eq_false m, decide_eq_false (fun z => (List.mem_cons.mp z).elim (fun z => h z.symm) m)]
theorem gIn_nats {x : Nat} {ys : List Nat} {R : D → Prop} (q : R (.bl (decide (x ∈ ys)))) : gIn false (natD x) (.lst (ys.map natD)) R := by
  refine ⟨_, rfl, rfl, ?_, ?_⟩
  · rw [List.all_map]
    exact List.all_eq_true.mpr fun y _ => rfl
  · rw [Bool.false_xor]
    rw [any_nats]; exact q
end GK
namespace GK
open PySem PySem.Spec PyProof.Rows L2
mutual
theorem eqv_self : ∀ d : D, PyData.eqv (toP d) (toP d) = true
  | .non => by rw [toP]; rfl
  | .bl b => by simp [toP, PyData.eqv]
  | .int i => by simp [toP, PyData.eqv]
  | .str x => by simp [toP, PyData.eqv]
  | .raw v => by rw [toP]; rfl
  | .dK v => by rw [toP]; rfl
  | .dT v => by rw [toP]; rfl
  | .obj C v => by rw [toP]; rfl
  | .tup xs => by rw [toP, PyData.eqv]; exact eqvs_self xs
  | .lst xs => by rw [toP, PyData.eqv]; exact eqvs_self xs
theorem eqvs_self : ∀ ds : List D, PyData.eqvAll (toPs ds) (toPs ds) = true
  | [] => by rw [toPs]; rfl
  | d :: ds => by rw [toPs, PyData.eqvAll, eqv_self d, eqvs_self ds]; rfl
end
theorem okDs_all {n : Nat} : ∀ {ds : List D}, (∀ d ∈ ds, okD n d = true) → okDs n ds = true
  | [], _ => rfl
  | d :: ds, h => by
    rw [okDs, h d List.mem_cons_self, okDs_all fun x hx => h x (List.mem_cons_of_mem _ hx)]; rfl
theorem eqD_self {n : Bool} {d : D} {R : D → Prop} (h : okD 60 d = true) (q : R (.bl (n ^^ true))) : gEqD n d d R := ⟨h, h, by
  unfold eqvD
  rw [eqv_self]; exact q⟩
end GK
namespace GK
theorem gListL_lst {ds : List D} {R : D → Prop} : gListL [.lst ds] R = R (.lst ds) := rfl
theorem gTupL_lst {ds : List D} {R : D → Prop} : gTupL [.lst ds] R = R (.tup ds) := rfl
theorem gListU_lst {ds : List D} {R : D → Prop} : gListU [.lst ds] R = R (.lst ds) := rfl
theorem gListU_tup {ds : List D} {R : D → Prop} : gListU [.tup ds] R = R (.lst ds) := rfl
end GK

namespace GK.N2

/-! ### graphs: walks, sums, rings -/
abbrev Ed := Nat × Nat × Int
def Wk (es : List Ed) : Nat → List Nat → Nat → Prop
  | s, [], v => s = v
  | s, i :: is, v => ∃ m c, es[i]? = some (s, m, c) ∧ Wk es m is v
def cst (es : List Ed) (i : Nat) : Int := match es[i]? with
  | some (_, _, c) => c
  | none => 0
def sm (es : List Ed) : List Nat → Int
  | [] => 0
  | i :: is => cst es i + sm es is
theorem cst_at {es : List Ed} {i u v : Nat} {c : Int} (h : es[i]? = some (u, v, c)) : cst es i = c := by unfold cst; rw [h]
theorem sm_append {es : List Ed} : ∀ (a b : List Nat), sm es (a ++ b) = sm es a + sm es b
  | [], b => by rw [List.nil_append]; unfold sm; omega
  | i :: a, b => by
    rw [List.cons_append]
    show cst es i + sm es (a ++ b) = cst es i + sm es a + sm es b
    rw [sm_append a b]; omega
theorem sm_one {es : List Ed} {i : Nat} : sm es [i] = cst es i := by show cst es i + 0 = _; omega
theorem wk_append {es : List Ed} : ∀ {a b : List Nat} {s v : Nat}, Wk es s (a ++ b) v ↔ ∃ m, Wk es s a m ∧ Wk es m b v
  | [], b, s, v => ⟨fun h => ⟨s, rfl, h⟩, fun ⟨m, e, h⟩ => by
    have e : s = m := e
    rw [e]; exact h⟩
  | i :: a, b, s, v => by
    constructor
    · rintro ⟨m, c, e, h⟩
      obtain ⟨k, h1, h2⟩ := wk_append.mp h
      exact ⟨k, ⟨m, c, e, h1⟩, h2⟩
    · rintro ⟨k, ⟨m, c, e, h1⟩, h2⟩
      exact ⟨m, c, e, wk_append.mpr ⟨k, h1, h2⟩⟩
theorem wk_end {es : List Ed} {is : List Nat} {s v w : Nat} : Wk es s is v → Wk es s is w → v = w := by
  induction is generalizing s with
  | nil => intro a b; exact (show s = v from a).symm.trans b
  | cons i is ih =>
    rintro ⟨m, c, e, h⟩ ⟨m', c', e', h'⟩
    rw [e] at e'
    cases e'
    exact ih h h'
theorem wk_ix {es : List Ed} {is : List Nat} {s v : Nat} (h : Wk es s is v) : ∀ i ∈ is, i < es.length := by
  induction is generalizing s with
  | nil => intro i hi; cases hi
  | cons j is ih =>
    obtain ⟨m, c, e, h⟩ := h
    intro i hi
    rcases List.mem_cons.mp hi with rfl | hi
    · exact (List.getElem?_eq_some_iff.mp e).1
    · exact ih h i hi
/-- a falling closed walk of k edges -/
def CN (es : List Ed) (k : Nat) : Prop := ∃ s is, is.length = k ∧ is ≠ [] ∧ Wk es s is s ∧ sm es is < 0
/-- .. of the fewest -/
def Least (es : List Ed) (s : Nat) (is : List Nat) : Prop := is ≠ [] ∧ Wk es s is s ∧ sm es is < 0 ∧ ∀ k, k < is.length → ¬ CN es k
theorem Least.cn {es : List Ed} {s : Nat} {is : List Nat} (h : Least es s is) : CN es is.length := ⟨s, is, rfl, h.1, h.2.1, h.2.2.1⟩
theorem cn_min {es : List Ed} : ∀ (k : Nat), CN es k → ∃ m, m ≤ k ∧ CN es m ∧ ∀ j, j < m → ¬ CN es j := by
  intro k
  induction k using Nat.strongRecOn with
  | _ k ih =>
    intro h
    by_cases c : ∃ j, j < k ∧ CN es j
    · obtain ⟨j, hj, h'⟩ := c
      obtain ⟨m, hm, q⟩ := ih j hj h'
      exact ⟨m, by omega, q⟩
    · exact ⟨k, Nat.le_refl _, h, fun j hj h' => c ⟨j, hj, h'⟩⟩

/-! ### a turn with falling prefixes -/
theorem turn_split (f : Nat → Int) (sf : List Nat → Int) (s0 : sf [] = 0) (sc : ∀ i is, sf (i :: is) = f i + sf is) : ∀ xs : List Nat, ∃ a b, xs = a ++ b ∧ (∀ p q, b = p ++ q → p ≠ [] → sf p < 0) ∧ (∀ p q, a = p ++ q → 0 ≤ sf q)
  | [] => ⟨[], [], rfl, fun p q e hp => by
      have := congrArg List.length e
      rw [List.length_append, List.length_nil] at this
      exact absurd (List.length_eq_zero_iff.mp (by omega)) hp, fun p q e => by
      have := congrArg List.length e
      rw [List.length_append, List.length_nil] at this
      rw [List.length_eq_zero_iff.mp (show q.length = 0 by omega), s0]
      exact Int.le_refl _⟩
  | x :: r => by
    have sa : ∀ a b, sf (a ++ b) = sf a + sf b := fun a b => by
      induction a with
      | nil => rw [List.nil_append, s0]; omega
      | cons i a ih => rw [List.cons_append, sc, sc, ih]; omega
    obtain ⟨a, b, e, hb, ha⟩ := turn_split f sf s0 sc r
    by_cases c : 0 ≤ f x + sf a
    · refine ⟨x :: a, b, by rw [e]; rfl, hb, fun p q e' => ?_⟩
      cases p with
      | nil =>
        rw [List.nil_append] at e'
        rw [← e', sc]; exact c
      | cons y p =>
        rw [List.cons_append] at e'
        injection e' with e1 e2
        exact ha p q e2
    · refine ⟨[], x :: (a ++ b), by rw [e]; rfl, fun p q e' hp => ?_, fun p q e' => ?_⟩
      · cases p with
        | nil => exact absurd rfl hp
        | cons y p =>
          rw [List.cons_append] at e'
          injection e' with e1 e2
          subst e1
          rw [sc]
          rcases List.append_eq_append_iff.mp e2 with ⟨z, z1, z2⟩ | ⟨z, z1, z2⟩
          · -- p = a ++ z, b = z ++ q
            rw [z1, sa]
            by_cases hz : z = []
            · rw [hz, s0]; omega
            · have := hb z q z2 hz
              omega
          · -- a = p ++ z
            have h1 := ha p z z1
            have h2 := sa p z
            rw [← z1] at h2
            omega
      · have := congrArg List.length e'
        rw [List.length_append, List.length_nil] at this
        rw [List.length_eq_zero_iff.mp (show q.length = 0 by omega), s0]
        exact Int.le_refl _
/-- every falling closed walk can be begun so that all sums on the way are below 0 -/
theorem turn_neg {es : List Ed} {s : Nat} {is : List Nat} (h : Wk es s is s) (hs : sm es is < 0) : ∃ m js, js.length = is.length ∧ Wk es m js m ∧ sm es js = sm es is ∧ ∀ p q, js = p ++ q → p ≠ [] → sm es p < 0 := by
  obtain ⟨a, b, e, hb, ha⟩ := turn_split (cst es) (sm es) rfl (fun _ _ => rfl) is
  subst e
  obtain ⟨m, h1, h2⟩ := wk_append.mp h
  rw [sm_append] at hs
  refine ⟨m, b ++ a, by rw [List.length_append, List.length_append, Nat.add_comm], wk_append.mpr ⟨s, h2, h1⟩, by rw [sm_append, sm_append]; omega, fun p q e hp => ?_⟩
  rcases List.append_eq_append_iff.mp e with ⟨z, z1, z2⟩ | ⟨z, z1, z2⟩
  · -- p = b ++ z, a = z ++ q
    have h3 := ha z q z2
    rw [z1, sm_append]
    rw [z2, sm_append] at hs
    omega
  · exact hb p z z1 hp

/-! ### the fewest: no node twice -/
theorem nodup_lt : ∀ (n : Nat) (l : List Nat), l.Nodup → (∀ x ∈ l, x < n) → l.length ≤ n
  | 0, [], _, _ => Nat.le_refl _
  | 0, x :: l, _, h => absurd (h x List.mem_cons_self) (by omega)
  | n + 1, l, nd, h => by
    have h1 := nodup_lt n (l.erase n) (nd.erase n) fun x hx => by
      have := h x (List.mem_of_mem_erase hx)
      have : x ≠ n := (nd.mem_erase_iff.mp hx).1
      omega
    rw [List.length_erase] at h1
    split at h1 <;> omega
def tl (es : List Ed) (i : Nat) : Nat := match es[i]? with
  | some (u, _, _) => u
  | none => 0
theorem tl_at {es : List Ed} {i u v : Nat} {c : Int} (h : es[i]? = some (u, v, c)) : tl es i = u := by unfold tl; rw [h]
theorem wk_tl {es : List Ed} {s v i : Nat} {is : List Nat} (h : Wk es s (i :: is) v) : tl es i = s := by
  obtain ⟨m, c, e, _⟩ := h
  exact tl_at e
theorem Least.tails {es : List Ed} {s : Nat} {is : List Nat} (h : Least es s is) : (is.map (tl es)).Nodup := by
  obtain ⟨h0, hw, hs, hm⟩ := h
  rw [List.nodup_iff_pairwise_ne, List.pairwise_map]
  rw [List.pairwise_iff_getElem]
  intro i j hi hj hij eq
  -- is = a ++ b ++ c
  have e1 : is = is.take i ++ (is.drop i) := (List.take_append_drop i is).symm
  have e2 : is.drop i = (is.drop i).take (j - i) ++ is.drop j := by
    have := (List.take_append_drop (j - i) (is.drop i)).symm
    rw [List.drop_drop, show i + (j - i) = j by omega] at this
    exact this
  have hw' := hw
  rw [e1] at hw'
  obtain ⟨m, w1, w2⟩ := wk_append.mp hw'
  rw [e2] at w2
  obtain ⟨k, w3, w4⟩ := wk_append.mp w2
  have di : is.drop i = is[i] :: is.drop (i + 1) := List.drop_eq_getElem_cons hi
  have dj : is.drop j = is[j] :: is.drop (j + 1) := List.drop_eq_getElem_cons hj
  have em : m = tl es is[i] := by
    rw [← e2, di] at w2
    exact (wk_tl w2).symm
  have ek : k = tl es is[j] := by
    rw [dj] at w4
    exact (wk_tl w4).symm
  have ekm : k = m := by rw [em, ek]; exact eq.symm
  subst ekm
  have s1 : sm es is = sm es (is.take i) + (sm es ((is.drop i).take (j - i)) + sm es (is.drop j)) := by
    rw [← sm_append, ← e2, ← sm_append, ← e1]
  have l1 : ((is.drop i).take (j - i)).length = j - i := by rw [List.length_take, List.length_drop]; omega
  have l2 : (is.take i ++ is.drop j).length = is.length - (j - i) := by rw [List.length_append, List.length_take, List.length_drop]; omega
  by_cases c : sm es ((is.drop i).take (j - i)) < 0
  · exact hm (j - i) (by omega) ⟨k, _, l1, fun z => by rw [z] at l1; simp at l1; omega, w3, c⟩
  · refine hm (is.length - (j - i)) (by omega) ⟨s, _, l2, fun z => ?_, wk_append.mpr ⟨k, w1, w4⟩, by rw [sm_append]; omega⟩
    rw [z] at l2; simp at l2; omega
/-- all ends below n -/
def Wf (es : List Ed) (n : Nat) : Prop := ∀ e ∈ es, e.1 < n ∧ e.2.1 < n
theorem Wf.at {es : List Ed} {n i u v : Nat} {c : Int} (w : Wf es n) (h : es[i]? = some (u, v, c)) : u < n ∧ v < n := w _ (List.mem_of_getElem? h)
theorem wk_tl_lt {es : List Ed} {n : Nat} (w : Wf es n) : ∀ {is : List Nat} {s v : Nat}, Wk es s is v → ∀ x ∈ is.map (tl es), x < n
  | [], _, _, _, x, hx => by cases hx
  | i :: is, s, v, ⟨m, c, e, h⟩, x, hx => by
    rw [List.map_cons] at hx
    rcases List.mem_cons.mp hx with rfl | hx
    · rw [tl_at e]; exact (w.at e).1
    · exact wk_tl_lt w h x hx
theorem Least.le {es : List Ed} {n s : Nat} {is : List Nat} (w : Wf es n) (h : Least es s is) : is.length ≤ n := by
  have := nodup_lt n _ h.tails (wk_tl_lt w h.2.1)
  rwa [List.length_map] at this

/-! ### sums by prices -/
def red (p : Nat → Int) (es : List Ed) : List Ed := es.map fun e => (e.1, e.2.1, e.2.2 + p e.1 - p e.2.1)
theorem red_get {p : Nat → Int} {es : List Ed} {i u v : Nat} {c : Int} : (red p es)[i]? = some (u, v, c) ↔ es[i]? = some (u, v, c - p u + p v) := by
  unfold red
  rw [List.getElem?_map]
  cases q : es[i]? with
  | none => simp
  | some e =>
    obtain ⟨a, b, d⟩ := e
    simp only [Option.map_some, Option.some.injEq, Prod.mk.injEq]
    constructor
    · rintro ⟨rfl, rfl, rfl⟩; exact ⟨rfl, rfl, by omega⟩
    · rintro ⟨rfl, rfl, rfl⟩; exact ⟨rfl, rfl, by omega⟩
theorem red_wk {p : Nat → Int} {es : List Ed} : ∀ {is : List Nat} {s v : Nat}, Wk (red p es) s is v ↔ Wk es s is v
  | [], s, v => Iff.rfl
  | i :: is, s, v => by
    constructor
    · rintro ⟨m, c, e, h⟩
      exact ⟨m, _, red_get.mp e, red_wk.mp h⟩
    · rintro ⟨m, c, e, h⟩
      exact ⟨m, c + p s - p m, red_get.mpr (by rw [e, show c + p s - p m - p s + p m = c by omega]), red_wk.mpr h⟩
theorem red_sm {p : Nat → Int} {es : List Ed} : ∀ {is : List Nat} {s v : Nat}, Wk es s is v → sm (red p es) is = sm es is + p s - p v
  | [], s, v, h => by
    have h : s = v := h
    subst h
    show (0 : Int) = 0 + p s - p s
    omega
  | i :: is, s, v, ⟨m, c, e, h⟩ => by
    show cst (red p es) i + sm (red p es) is = cst es i + sm es is + p s - p v
    have e' : (red p es)[i]? = some (s, m, c + p s - p m) := red_get.mpr (by rw [e, show c + p s - p m - p s + p m = c by omega])
    rw [red_sm h, cst_at e, cst_at e']
    omega
theorem red_cn {p : Nat → Int} {es : List Ed} {k : Nat} : CN (red p es) k ↔ CN es k := by
  constructor
  · rintro ⟨s, is, h1, h2, h3, h4⟩
    have h3' := red_wk.mp h3
    rw [red_sm h3'] at h4
    exact ⟨s, is, h1, h2, h3', by omega⟩
  · rintro ⟨s, is, h1, h2, h3, h4⟩
    exact ⟨s, is, h1, h2, red_wk.mpr h3, by rw [red_sm h3]; omega⟩
theorem red_least {p : Nat → Int} {es : List Ed} {s : Nat} {is : List Nat} (h : Least (red p es) s is) : Least es s is := by
  obtain ⟨h1, h2, h3, h4⟩ := h
  have h2' := red_wk.mp h2
  rw [red_sm h2'] at h3
  exact ⟨h1, h2', by omega, fun k hk c => h4 k hk (red_cn.mpr c)⟩
/-- prices that stand: nothing falls -/
theorem feas_no {p : Nat → Int} {es : List Ed} (h : ∀ (i u v : Nat) (c : Int), es[i]? = some (u, v, c) → p v ≤ p u + c) (k : Nat) : ¬ CN es k := by
  have key : ∀ {is : List Nat} {s v : Nat}, Wk es s is v → p v - p s ≤ sm es is := by
    intro is
    induction is with
    | nil =>
      intro s v w
      have w : s = v := w
      subst w
      show p s - p s ≤ (0 : Int)
      omega
    | cons i is ih =>
      rintro s v ⟨m, c, e, w⟩
      have h1 := ih w
      have h2 := h i s m c e
      show p v - p s ≤ cst es i + sm es is
      rw [cst_at e]; omega
  rintro ⟨s, is, _, _, w, hs⟩
  have := key w
  omega
end GK.N2

namespace GK.N2

/-! ### prices and the last edges -/
abbrev pf (ps : List Int) (v : Nat) : Int := ps.getD v 0
abbrev lf (la : List (Option Nat)) (v : Nat) : Option Nat := la.getD v none
theorem getD_set {α : Type} {l : List α} {v w : Nat} {x d : α} (h : v < l.length) : (l.set v x).getD w d = if w = v then x else l.getD w d := by
  rw [List.getD_eq_getElem?_getD, List.getD_eq_getElem?_getD, List.getElem?_set]
  by_cases e : v = w
  · subst e; simp [h]
  · rw [if_neg e, if_neg (fun z => e z.symm)]
theorem tele {es : List Ed} {q : Nat → Int} : ∀ {is : List Nat} {s v : Nat}, Wk es s is v → (∀ i ∈ is, ∀ a b d, es[i]? = some (a, b, d) → d ≤ q b - q a) → sm es is ≤ q v - q s
  | [], s, v, w, _ => by
    have w : s = v := w
    subst w
    show (0 : Int) ≤ q s - q s
    omega
  | i :: is, s, v, ⟨m, c, e, w⟩, h => by
    have h1 := tele w fun j hj => h j (List.mem_cons_of_mem _ hj)
    have h2 := h i List.mem_cons_self s m c e
    show cst es i + sm es is ≤ _
    rw [cst_at e]; omega
theorem tele_lt {es : List Ed} {q : Nat → Int} {j : Nat} : ∀ {is : List Nat} {s v : Nat}, Wk es s is v → (∀ i ∈ is, ∀ a b d, es[i]? = some (a, b, d) → d ≤ q b - q a) → j ∈ is → (∀ a b d, es[j]? = some (a, b, d) → d < q b - q a) → sm es is < q v - q s
  | [], s, v, w, _, hj, _ => by cases hj
  | i :: is, s, v, ⟨m, c, e, w⟩, h, hj, hl => by
    have h2 := h i List.mem_cons_self s m c e
    show cst es i + sm es is < _
    rw [cst_at e]
    rcases List.mem_cons.mp hj with rfl | hj
    · have h1 := tele w fun j hj => h j (List.mem_cons_of_mem _ hj)
      have h3 := hl s m c e
      omega
    · have h1 := tele_lt w (fun j hj => h j (List.mem_cons_of_mem _ hj)) hj hl
      omega
structure Inv (es : List Ed) (n : Nat) (ps : List Int) (la : List (Option Nat)) : Prop where
  lp : ps.length = n
  ll : la.length = n
  i0 : ∀ v, v < n → lf la v = none → pf ps v = 0
  i1 : ∀ v i, v < n → lf la v = some i → ∃ u c, es[i]? = some (u, v, c) ∧ pf ps u + c ≤ pf ps v
  i2 : ∀ s is, is ≠ [] → Wk es s is s → (∀ i ∈ is, ∃ v, v < n ∧ lf la v = some i) → sm es is < 0
theorem Inv.start (es : List Ed) (n : Nat) : Inv es n (List.replicate n 0) (List.replicate n none) where
  lp := List.length_replicate ..
  ll := List.length_replicate ..
  i0 := fun v hv _ => by unfold pf; rw [List.getD_eq_getElem?_getD, List.getElem?_replicate, if_pos hv]; rfl
  i1 := fun v i hv h => by unfold lf at h; rw [List.getD_eq_getElem?_getD, List.getElem?_replicate, if_pos hv] at h; cases h
  i2 := fun s is h0 _ h => by
    cases is with
    | nil => exact absurd rfl h0
    | cons i is =>
      obtain ⟨v, hv, h⟩ := h i List.mem_cons_self
      unfold lf at h; rw [List.getD_eq_getElem?_getD, List.getElem?_replicate, if_pos hv] at h; cases h
theorem Inv.relax {es : List Ed} {n : Nat} {ps : List Int} {la : List (Option Nat)} (I : Inv es n ps la) {j u v : Nat} {c : Int} (e : es[j]? = some (u, v, c)) (hu : u < n) (hv : v < n) (h : pf ps u + c < pf ps v) :
    Inv es n (ps.set v (pf ps u + c)) (la.set v (some j)) := by
  have hp : ∀ w, pf (ps.set v (pf ps u + c)) w = if w = v then pf ps u + c else pf ps w := fun w => getD_set (by rw [I.lp]; exact hv)
  have hl : ∀ w, lf (la.set v (some j)) w = if w = v then some j else lf la w := fun w => getD_set (by rw [I.ll]; exact hv)
  refine ⟨by rw [List.length_set]; exact I.lp, by rw [List.length_set]; exact I.ll, fun w hw h0 => ?_, fun w i hw h1 => ?_, fun s is h0 hw h1 => ?_⟩
  · rw [hl] at h0
    split at h0
    · cases h0
    · rename_i q
      rw [hp, if_neg q]
      exact I.i0 w hw h0
  · rw [hl] at h1
    by_cases q : w = v
    · rw [if_pos q] at h1
      cases h1
      subst q
      refine ⟨u, c, e, ?_⟩
      rw [hp, hp, if_pos rfl]
      split
      · rename_i q2
        subst q2
        omega
      · omega
    · rw [if_neg q] at h1
      obtain ⟨u', c', e', h2⟩ := I.i1 w i hw h1
      refine ⟨u', c', e', ?_⟩
      rw [hp, hp, if_neg q]
      split
      · rename_i q2
        subst q2
        omega
      · exact h2
  · have old : ∀ i ∈ is, i ≠ j → ∃ x, x < n ∧ lf la x = some i := fun i hi ne => by
      obtain ⟨x, hx, h2⟩ := h1 i hi
      rw [hl] at h2
      split at h2
      · cases h2; exact absurd rfl ne
      · exact ⟨x, hx, h2⟩
    by_cases hj : j ∈ is
    · have := tele_lt (q := pf ps) hw (fun i hi a b d e' => ?_) hj (fun a b d e' => ?_)
      · omega
      · by_cases q : i = j
        · subst q
          rw [e] at e'
          cases e'
          omega
        · obtain ⟨x, hx, h2⟩ := old i hi q
          obtain ⟨u', c', e2, h3⟩ := I.i1 x i hx h2
          rw [e2] at e'
          cases e'
          omega
      · rw [e] at e'
        cases e'
        omega
    · exact I.i2 s is h0 hw fun i hi => old i hi fun q => hj (q ▸ hi)
/-- within a round: k edges seen -/
structure Rd (es : List Ed) (n : Nat) (p0 ps : List Int) (la : List (Option Nat)) (fl : Bool) (k : Nat) : Prop where
  inv : Inv es n ps la
  le : ∀ v, v < n → pf ps v ≤ pf p0 v
  ed : ∀ i, i < k → ∀ u v c, es[i]? = some (u, v, c) → pf ps v ≤ pf p0 u + c
  f0 : fl = false → ps = p0
  f1 : fl = true → ∃ v, v < n ∧ pf ps v < pf p0 v
theorem Rd.start {es : List Ed} {n : Nat} {ps : List Int} {la : List (Option Nat)} (I : Inv es n ps la) : Rd es n ps ps la false 0 :=
  ⟨I, fun v _ => Int.le_refl _, fun i hi => absurd hi (Nat.not_lt_zero _), fun _ => rfl, fun h => by cases h⟩
theorem Rd.relax {es : List Ed} {n k u v : Nat} {p0 ps : List Int} {la : List (Option Nat)} {fl : Bool} {c : Int} (w : Wf es n) (R : Rd es n p0 ps la fl k) (e : es[k]? = some (u, v, c)) (h : pf ps u + c < pf ps v) :
    Rd es n p0 (ps.set v (pf ps u + c)) (la.set v (some k)) true (k + 1) := by
  obtain ⟨hu, hv⟩ := w.at e
  have hp : ∀ x, pf (ps.set v (pf ps u + c)) x = if x = v then pf ps u + c else pf ps x := fun x => getD_set (by rw [R.inv.lp]; exact hv)
  have lower : ∀ x, pf (ps.set v (pf ps u + c)) x ≤ pf ps x := fun x => by
    rw [hp]
    split
    · rename_i q; rw [q]; omega
    · exact Int.le_refl _
  refine ⟨R.inv.relax e hu hv h, fun x hx => Int.le_trans (lower x) (R.le x hx), fun i hi a b d e' => ?_, fun z => (by cases z), fun _ => ⟨v, hv, ?_⟩⟩
  · by_cases q : i = k
    · subst q
      rw [e] at e'
      cases e'
      rw [hp, if_pos rfl]
      have := R.le u hu
      omega
    · exact Int.le_trans (lower b) (R.ed i (by omega) a b d e')
  · rw [hp, if_pos rfl]
    have := R.le v hv
    omega
theorem Rd.skip {es : List Ed} {n k u v : Nat} {p0 ps : List Int} {la : List (Option Nat)} {fl : Bool} {c : Int} (w : Wf es n) (R : Rd es n p0 ps la fl k) (e : es[k]? = some (u, v, c)) (h : ¬ pf ps u + c < pf ps v) : Rd es n p0 ps la fl (k + 1) := by
  obtain ⟨hu, hv⟩ := w.at e
  refine ⟨R.inv, R.le, fun i hi a b d e' => ?_, R.f0, R.f1⟩
  by_cases q : i = k
  · subst q
    rw [e] at e'
    cases e'
    have := R.le u hu
    omega
  · exact R.ed i (by omega) a b d e'
theorem Rd.none {es : List Ed} {n : Nat} {p0 ps : List Int} {la : List (Option Nat)} (R : Rd es n p0 ps la false es.length) (k : Nat) : ¬ CN es k := by
  refine feas_no (p := pf ps) (fun i u v c e => ?_) k
  have h1 := R.ed i (List.getElem?_eq_some_iff.mp e).1 u v c e
  rw [← R.f0 rfl] at h1
  exact h1

/-! ### the rounds so far -/
def HI (es : List Ed) (n i : Nat) (ps : List Int) : Prop := ∃ h : Nat → Nat → Int, (∀ v, v < n → h 0 v = 0) ∧ (∀ v, v < n → h i v = pf ps v) ∧ ∀ j, j < i → (∀ v, v < n → h (j + 1) v ≤ h j v) ∧ (∀ (k u v : Nat) (c : Int), es[k]? = some (u, v, c) → h (j + 1) v ≤ h j u + c) ∧ ∃ v, v < n ∧ h (j + 1) v < h j v
theorem HI.start (es : List Ed) (n : Nat) : HI es n 0 (List.replicate n 0) := ⟨fun _ _ => 0, fun _ _ => rfl, fun v hv => by unfold pf; rw [List.getD_eq_getElem?_getD, List.getElem?_replicate, if_pos hv]; rfl, fun j hj => absurd hj (Nat.not_lt_zero _)⟩
theorem HI.next {es : List Ed} {n i : Nat} {p0 ps : List Int} {la : List (Option Nat)} (w : Wf es n) (H : HI es n i p0) (R : Rd es n p0 ps la true es.length) : HI es n (i + 1) ps := by
  obtain ⟨h, h0, h1, h2⟩ := H
  refine ⟨fun j v => if j ≤ i then h j v else pf ps v, fun v hv => ?_, fun v hv => ?_, fun j hj => ?_⟩
  · dsimp only; rw [if_pos (Nat.zero_le _)]; exact h0 v hv
  · dsimp only; rw [if_neg (by omega)]
  · by_cases q : j < i
    · obtain ⟨a, b, v, c1, c2⟩ := h2 j q
      refine ⟨fun v hv => ?_, fun k u v c e => ?_, v, c1, ?_⟩
      · dsimp only; rw [if_pos (by omega), if_pos (by omega)]; exact a v hv
      · dsimp only; rw [if_pos (by omega), if_pos (by omega)]; exact b k u v c e
      · dsimp only; rw [if_pos (by omega), if_pos (by omega)]; exact c2
    · have q : j = i := by omega
      subst q
      obtain ⟨v, c1, c2⟩ := R.f1 rfl
      refine ⟨fun v hv => ?_, fun k u v c e => ?_, v, c1, ?_⟩
      · dsimp only; rw [if_neg (by omega), if_pos (by omega), h1 v hv]; exact R.le v hv
      · dsimp only; rw [if_neg (by omega), if_pos (by omega), h1 u (w.at e).1]
        exact R.ed k (List.getElem?_eq_some_iff.mp e).1 u v c e
      · dsimp only; rw [if_neg (by omega), if_pos (by omega), h1 v c1]; exact c2
/-- the last edges lead from v to a node without one, in d steps -/
def Gr (es : List Ed) (la : List (Option Nat)) : Nat → Nat → Prop
  | 0, v => lf la v = none
  | d + 1, v => ∃ i u c, lf la v = some i ∧ es[i]? = some (u, v, c) ∧ Gr es la d u
/-- .. from x to y in j steps -/
def PP (es : List Ed) (la : List (Option Nat)) : Nat → Nat → Nat → Prop
  | 0, x, y => x = y
  | j + 1, x, y => ∃ i u c, lf la x = some i ∧ es[i]? = some (u, x, c) ∧ PP es la j u y
theorem Gr.uniq {es : List Ed} {la : List (Option Nat)} : ∀ {d d' v : Nat}, Gr es la d v → Gr es la d' v → d = d'
  | 0, 0, _, _, _ => rfl
  | 0, d + 1, v, h, ⟨i, u, c, e, _⟩ => by rw [show lf la v = none from h] at e; cases e
  | d + 1, 0, v, ⟨i, u, c, e, _⟩, h => by rw [show lf la v = none from h] at e; cases e
  | d + 1, d' + 1, v, ⟨i, u, c, e, e2, g⟩, ⟨i', u', c', e', e2', g'⟩ => by
    rw [e] at e'
    cases e'
    rw [e2] at e2'
    cases e2'
    rw [Gr.uniq g g']
theorem PP.snoc {es : List Ed} {la : List (Option Nat)} : ∀ {j x y i u : Nat} {c : Int}, PP es la j x y → lf la y = some i → es[i]? = some (u, y, c) → PP es la (j + 1) x u
  | 0, x, y, i, u, c, h, e, e2 => by
    have h : x = y := h
    subst h
    exact ⟨i, u, c, e, e2, rfl⟩
  | j + 1, x, y, i, u, c, ⟨i', u', c', e', e2', h⟩, e, e2 => ⟨i', u', c', e', e2', PP.snoc h e e2⟩
theorem PP.gr {es : List Ed} {la : List (Option Nat)} : ∀ {j x y d : Nat}, PP es la j x y → Gr es la d y → ∃ d', Gr es la d' x
  | 0, x, y, d, h, g => by
    have h : x = y := h
    subst h
    exact ⟨d, g⟩
  | j + 1, x, y, d, ⟨i, u, c, e, e2, h⟩, g => by
    obtain ⟨d', g'⟩ := PP.gr h g
    exact ⟨d' + 1, i, u, c, e, e2, g'⟩
theorem Gr.chain {es : List Ed} {la : List (Option Nat)} {n : Nat} (w : Wf es n) : ∀ {d v : Nat}, Gr es la d v → v < n → ∃ l : List Nat, l.length = d + 1 ∧ l.Nodup ∧ ∀ x ∈ l, x < n ∧ ∃ d', d' ≤ d ∧ Gr es la d' x
  | 0, v, h, hv => ⟨[v], rfl, by simp, fun x hx => by rw [List.mem_singleton.mp hx]; exact ⟨hv, 0, Nat.le_refl _, h⟩⟩
  | d + 1, v, ⟨i, u, c, e, e2, g⟩, hv => by
    obtain ⟨l, h1, h2, h3⟩ := Gr.chain w g (w.at e2).1
    refine ⟨v :: l, by rw [List.length_cons, h1], List.nodup_cons.mpr ⟨fun hm => ?_, h2⟩, fun x hx => ?_⟩
    · obtain ⟨_, d', hd, g'⟩ := h3 v hm
      have := Gr.uniq g' (show Gr es la (d + 1) v from ⟨i, u, c, e, e2, g⟩)
      omega
    · rcases List.mem_cons.mp hx with rfl | hx
      · exact ⟨hv, d + 1, Nat.le_refl _, i, u, c, e, e2, g⟩
      · obtain ⟨a, d', hd, g'⟩ := h3 x hx
        exact ⟨a, d', by omega, g'⟩
/-- after n rounds that all changed something the last edges can't all lead out -/
theorem HI.absurd {es : List Ed} {n : Nat} {ps : List Int} {la : List (Option Nat)} (w : Wf es n) (hn : 0 < n) (I : Inv es n ps la) (H : HI es n n ps) (G : ∀ v, v < n → ∃ d, Gr es la d v) : False := by
  obtain ⟨h, h0, h1, h2⟩ := H
  have mono : ∀ v, v < n → ∀ k j, j + k ≤ n → h (j + k) v ≤ h j v := fun v hv k => by
    induction k with
    | zero => intro j _; exact Int.le_refl _
    | succ k ih =>
      intro j hj
      have a := (h2 (j + k) (by omega)).1 v hv
      have b := ih j (by omega)
      rw [show j + (k + 1) = j + k + 1 by omega]
      omega
  have fin : ∀ d v, v < n → Gr es la d v → ∀ j, d ≤ j → j ≤ n → h j v = pf ps v := by
    intro d
    induction d with
    | zero =>
      intro v hv g j _ hj
      have a := I.i0 v hv g
      have b := mono v hv j 0 (by omega)
      have c := mono v hv (n - j) j (by omega)
      rw [show j + (n - j) = n by omega, h1 v hv] at c
      rw [Nat.zero_add, h0 v hv] at b
      omega
    | succ d ih =>
      intro v hv ⟨i, u, c, e, e2, g⟩ j hd hj
      obtain ⟨u', c', e3, le⟩ := I.i1 v i hv e
      rw [e2] at e3
      cases e3
      have a := ih u (w.at e2).1 g (j - 1) (by omega) (by omega)
      have b := (h2 (j - 1) (by omega)).2.1 i u v c e2
      rw [show j - 1 + 1 = j by omega] at b
      have cc := mono v hv (n - j) j (by omega)
      rw [show j + (n - j) = n by omega, h1 v hv] at cc
      omega
  obtain ⟨v, hv, lt⟩ := (h2 (n - 1) (by omega)).2.2
  obtain ⟨d, g⟩ := G v hv
  obtain ⟨l, l1, l2, l3⟩ := g.chain w hv
  have := nodup_lt n l l2 fun x hx => (l3 x hx).1
  have a := fin d v hv g (n - 1) (by omega) (by omega)
  have b := fin d v hv g n (by omega) (by omega)
  rw [show n - 1 + 1 = n by omega] at lt
  omega
end GK.N2

namespace GK.N2

/-! ### tables by node -/
section
variable {β : Type}
def gt (l : List (Nat × β)) (k : Nat) : Option β := (l.find? fun e => decide (e.1 = k)).map (·.2)
def ins (l : List (Nat × β)) (k : Nat) (v : β) : List (Nat × β) :=
  if (l.any fun e => decide (e.1 = k)) = true then l.map (fun e => if e.1 = k then (e.1, v) else e) else l ++ [(k, v)]
theorem gt_nil {k : Nat} : gt ([] : List (Nat × β)) k = none := rfl
theorem gt_cons {e : Nat × β} {l : List (Nat × β)} {k : Nat} : gt (e :: l) k = if e.1 = k then some e.2 else gt l k := by
  unfold gt
  rw [List.find?_cons]
  by_cases h : e.1 = k <;> simp [h]
theorem gt_mem {l : List (Nat × β)} {k : Nat} {v : β} (h : gt l k = some v) : (k, v) ∈ l := by
  induction l with
  | nil => cases h
  | cons e l ih =>
    rw [gt_cons] at h
    split at h
    · rename_i q
      cases h
      rw [← q]; exact List.mem_cons_self
    · exact List.mem_cons_of_mem _ (ih h)
theorem gt_none {l : List (Nat × β)} {k : Nat} : gt l k = none ↔ k ∉ l.map (·.1) := by
  induction l with
  | nil => simp [gt_nil]
  | cons e l ih =>
    rw [gt_cons, List.map_cons, List.mem_cons]
    by_cases h : e.1 = k
    · rw [if_pos h]; simp [h]
    · rw [if_neg h, ih]
      exact ⟨fun q z => z.elim (fun z => h z.symm) q, fun q z => q (.inr z)⟩
theorem gt_of_mem {l : List (Nat × β)} {k : Nat} {v : β} (nd : (l.map (·.1)).Nodup) (h : (k, v) ∈ l) : gt l k = some v := by
  induction l with
  | nil => cases h
  | cons e l ih =>
    rw [gt_cons]
    rw [List.map_cons, List.nodup_cons] at nd
    rcases List.mem_cons.mp h with rfl | h
    · rw [if_pos rfl]
    · have q : ¬ e.1 = k := fun z => nd.1 (by rw [z]; exact List.mem_map.mpr ⟨(k, v), h, rfl⟩)
      rw [if_neg q, ih nd.2 h]
theorem any_key {l : List (Nat × β)} {k : Nat} : (l.any fun e => decide (e.1 = k)) = true ↔ k ∈ l.map (·.1) := by
  rw [List.any_eq_true, List.mem_map]
  constructor
  · rintro ⟨e, h1, h2⟩; exact ⟨e, h1, of_decide_eq_true h2⟩
  · rintro ⟨e, h1, h2⟩; exact ⟨e, h1, decide_eq_true h2⟩
theorem ins_new {l : List (Nat × β)} {k : Nat} {v : β} (h : k ∉ l.map (·.1)) : ins l k v = l ++ [(k, v)] := by
  unfold ins; rw [if_neg (fun z => h (any_key.mp z))]
theorem ins_keys_old {l : List (Nat × β)} {k : Nat} {v : β} (h : k ∈ l.map (·.1)) : (ins l k v).map (·.1) = l.map (·.1) := by
  unfold ins
  rw [if_pos (any_key.mpr h), List.map_map]
  refine List.map_congr_left fun e _ => ?_
  show (if e.1 = k then (e.1, v) else e).1 = e.1
  split <;> rfl
theorem ins_keys {l : List (Nat × β)} {k : Nat} {v : β} : ∀ x, x ∈ (ins l k v).map (·.1) ↔ x ∈ l.map (·.1) ∨ x = k := by
  intro x
  by_cases h : k ∈ l.map (·.1)
  · rw [ins_keys_old h]
    exact ⟨.inl, fun z => z.elim id fun z => z ▸ h⟩
  · rw [ins_new h, List.map_append, List.mem_append, List.map_cons, List.map_nil, List.mem_singleton]
theorem ins_nodup {l : List (Nat × β)} {k : Nat} {v : β} (nd : (l.map (·.1)).Nodup) : ((ins l k v).map (·.1)).Nodup := by
  by_cases h : k ∈ l.map (·.1)
  · rw [ins_keys_old h]; exact nd
  · rw [ins_new h, List.map_append]
    exact List.nodup_append.mpr ⟨nd, by simp, fun a ha b hb e => by
      rw [List.map_cons, List.map_nil, List.mem_singleton] at hb
      have hb : b = k := hb
      subst e
      subst hb
      exact h ha⟩
theorem gt_ins {l : List (Nat × β)} {k x : Nat} {v : β} : gt (ins l k v) x = if x = k then some v else gt l x := by
  by_cases h : k ∈ l.map (·.1)
  · unfold ins
    rw [if_pos (any_key.mpr h)]
    induction l with
    | nil => cases h
    | cons e l ih =>
      rw [List.map_cons, gt_cons, gt_cons]
      by_cases q : e.1 = k
      · rw [if_pos q]
        by_cases hx : x = k
        · rw [if_pos hx, if_pos (by rw [q, hx])]
        · rw [if_neg hx, if_neg (fun z => hx (z.symm.trans q)), if_neg (fun z => hx (z.symm.trans q))]
          by_cases h2 : k ∈ l.map (·.1)
          · have := ih h2
            rw [if_neg hx] at this; exact this
          · have e1 : l.map (fun e => if e.1 = k then (e.1, v) else e) = l := by
              rw [List.map_congr_left (g := id) fun e he => ?_, List.map_id]
              exact if_neg (fun z : e.1 = k => h2 (by rw [← z]; exact List.mem_map.mpr ⟨e, he, rfl⟩))
            rw [e1]
      · rw [if_neg q]
        have h2 : k ∈ l.map (·.1) := by
          rw [List.map_cons] at h
          exact (List.mem_cons.mp h).elim (fun z => absurd z.symm q) id
        rw [ih h2]
        by_cases hx : x = k
        · rw [if_pos hx, if_neg (fun z => q (z.trans hx)), if_pos hx]
        · rw [if_neg hx, if_neg hx]
  · rw [ins_new h]
    have key : ∀ l : List (Nat × β), k ∉ l.map (·.1) → gt (l ++ [(k, v)]) x = if x = k then some v else gt l x := fun l => by
      induction l with
      | nil =>
        intro _
        rw [List.nil_append, gt_cons, gt_nil]
        by_cases hx : x = k
        · rw [if_pos hx, if_pos hx.symm]
        · rw [if_neg hx, if_neg fun z => hx z.symm]
      | cons e l ih =>
        intro hk
        rw [List.map_cons] at hk
        rw [List.cons_append, gt_cons, gt_cons, ih fun z => hk (List.mem_cons_of_mem _ z)]
        by_cases q : e.1 = x
        · have hx : ¬ x = k := fun z => hk (by rw [← z, ← q]; exact List.mem_cons_self)
          rw [if_pos q, if_neg hx, if_pos q]
        · rw [if_neg q, if_neg q]
    exact key l h
theorem ins_len {l : List (Nat × β)} {k : Nat} {v : β} : (ins l k v).length ≤ l.length + 1 := by
  unfold ins
  split
  · rw [List.length_map]; omega
  · rw [List.length_append, List.length_singleton]; omega
end

/-! ### the search for a ring of last edges -/
structure AI (es : List Ed) (la : List (Option Nat)) (n k : Nat) (sn : List (Nat × Nat)) (node : Nat) : Prop where
  nd : (sn.map (·.1)).Nodup
  lt : node < n
  it : ∀ x w, (x, w) ∈ sn → x < n ∧ w ≤ k ∧ (w < k → ∃ d, Gr es la d x) ∧ (w = k → ∃ j, 1 ≤ j ∧ j ≤ sn.length ∧ PP es la j x node)
  pr : ∀ x, x < k → x ∈ sn.map (·.1) ∨ lf la x = none
  st : k = node ∨ k ∈ sn.map (·.1)
structure AO (es : List Ed) (la : List (Option Nat)) (n k : Nat) (sn : List (Nat × Nat)) : Prop where
  nd : (sn.map (·.1)).Nodup
  it : ∀ x w, (x, w) ∈ sn → x < n ∧ w < k ∧ ∃ d, Gr es la d x
  pr : ∀ x, x < k → x ∈ sn.map (·.1) ∨ lf la x = none
section
variable {es : List Ed} {la : List (Option Nat)} {n k node : Nat} {sn : List (Nat × Nat)}
theorem AO.start : AO es la n 0 [] := ⟨List.nodup_nil, fun x w h => (by cases h), fun x h => absurd h (Nat.not_lt_zero _)⟩
theorem AO.into (h : AO es la n k sn) (hk : k < n) : AI es la n k sn k :=
  ⟨h.nd, hk, fun x w hx => let ⟨a, b, c⟩ := h.it x w hx; ⟨a, Nat.le_of_lt b, fun _ => c, fun z => absurd z (Nat.ne_of_lt b)⟩, h.pr, .inl rfl⟩
theorem AI.len (h : AI es la n k sn node) : sn.length ≤ n := by
  have := nodup_lt n _ h.nd fun x hx => by
    obtain ⟨e, he, rfl⟩ := List.mem_map.mp hx
    exact (h.it e.1 e.2 he).1
  rwa [List.length_map] at this
theorem AO.len (h : AO es la n k sn) : sn.length ≤ n := by
  have := nodup_lt n _ h.nd fun x hx => by
    obtain ⟨e, he, rfl⟩ := List.mem_map.mp hx
    exact (h.it e.1 e.2 he).1
  rwa [List.length_map] at this
theorem AI.step (w : Wf es n) (h : AI es la n k sn node) (hn : node ∉ sn.map (·.1)) {i u : Nat} {c : Int} (e : lf la node = some i) (e2 : es[i]? = some (u, node, c)) : AI es la n k (ins sn node k) u := by
  refine ⟨ins_nodup h.nd, (w.at e2).1, fun x v hx => ?_, fun x hx => ?_, ?_⟩
  · rw [ins_new hn] at hx ⊢
    rw [List.length_append, List.length_singleton]
    rcases List.mem_append.mp hx with z | z
    · obtain ⟨a, b, c1, c2⟩ := h.it x v z
      refine ⟨a, b, c1, fun q => ?_⟩
      obtain ⟨j, j1, j2, j3⟩ := c2 q
      exact ⟨j + 1, by omega, by omega, j3.snoc e e2⟩
    · cases List.mem_singleton.mp z
      exact ⟨h.lt, Nat.le_refl _, fun q => absurd q (Nat.lt_irrefl _), fun _ => ⟨1, Nat.le_refl _, by omega, i, u, c, e, e2, rfl⟩⟩
  · exact (h.pr x hx).imp (fun z => (ins_keys x).mpr (.inl z)) id
  · right
    rcases h.st with z | z
    · rw [z]; exact (ins_keys node).mpr (.inr rfl)
    · exact (ins_keys k).mpr (.inl z)
theorem AI.room (h : AI es la n k sn node) (hn : node ∉ sn.map (·.1)) : sn.length < n := by
  have := nodup_lt n ((ins sn node k).map (·.1)) (ins_nodup h.nd) fun x hx => by
    rcases (ins_keys x).mp hx with z | z
    · obtain ⟨e, he, rfl⟩ := List.mem_map.mp z
      exact (h.it e.1 e.2 he).1
    · rw [z]; exact h.lt
  rw [List.length_map, ins_new hn, List.length_append, List.length_singleton] at this
  omega
theorem AI.ring (h : AI es la n k sn node) (hg : gt sn node = some k) : ∃ j, 1 ≤ j ∧ j ≤ n ∧ PP es la j node node := by
  obtain ⟨_, _, _, c⟩ := h.it node k (gt_mem hg)
  obtain ⟨j, j1, j2, j3⟩ := c rfl
  exact ⟨j, j1, Nat.le_trans j2 h.len, j3⟩
theorem AI.out (h : AI es la n k sn node) (hend : node ∈ sn.map (·.1) ∨ lf la node = none) (hg : gt sn node ≠ some k) : AO es la n (k + 1) sn := by
  have G : ∃ d, Gr es la d node := by
    rcases hend with z | z
    · cases q : gt sn node with
      | none => exact absurd z (gt_none.mp q)
      | some w =>
        obtain ⟨_, a, b, _⟩ := h.it node w (gt_mem q)
        exact b (by
          have : w ≠ k := fun z => hg (by rw [q, z])
          omega)
    · exact ⟨0, z⟩
  obtain ⟨d, G⟩ := G
  refine ⟨h.nd, fun x w hx => ?_, fun x hx => ?_⟩
  · obtain ⟨a, b, c1, c2⟩ := h.it x w hx
    refine ⟨a, by omega, ?_⟩
    by_cases q : w < k
    · exact c1 q
    · obtain ⟨j, _, _, p⟩ := c2 (by omega)
      exact p.gr G
  · by_cases q : x < k
    · exact h.pr x q
    · have q : x = k := by omega
      subst q
      rcases h.st with z | z
      · rw [z]; exact hend
      · exact .inl z
theorem AO.done (h : AO es la n n sn) : ∀ v, v < n → ∃ d, Gr es la d v := fun v hv => by
  rcases h.pr v hv with z | z
  · obtain ⟨e, he, rfl⟩ := List.mem_map.mp z
    exact (h.it e.1 e.2 he).2.2
  · exact ⟨0, z⟩
end
end GK.N2

namespace GK.N2

/-! ### layers -/
abbrev Lay := List (Nat × (Int × Option Nat))
abbrev Lv := List (List (Nat × Nat × Int))
def candsAt (lv : Lv) (u : Nat) (b : Int) : List (Nat × Int × Nat) := (lv.getD u []).map fun q => (q.2.1, b + q.2.2, q.1)
def cands (lv : Lv) (l : Lay) : List (Nat × Int × Nat) := l.flatMap fun e => candsAt lv e.1 e.2.1
def better (acc : Lay) (h : Nat) (t : Int) : Bool := match gt acc h with
  | none => true
  | some b => decide (t < b.1)
def stepF (b : List Int) (acc : Lay) (q : Nat × Int × Nat) : Lay := if q.2.1 < b.getD q.1 0 ∧ better acc q.1 q.2.1 = true then ins acc q.1 (q.2.1, some q.2.2) else acc
def nextL (lv : Lv) (b : List Int) (l : Lay) : Lay := (cands lv l).foldl (stepF b) []
def updB (b : List Int) (l : Lay) : List Int := l.foldl (fun b e => b.set e.1 e.2.1) b
def lev (lv : Lv) (n s : Nat) : Nat → Lay × List Int
  | 0 => ([(s, (0, none))], List.replicate n 0)
  | k + 1 => (nextL lv (lev lv n s k).2 (lev lv n s k).1, updB (lev lv n s k).2 (nextL lv (lev lv n s k).2 (lev lv n s k).1))
structure StepOk (n : Nat) (b : List Int) (acc : Lay) : Prop where
  nd : (acc.map (·.1)).Nodup
  lt : ∀ x ∈ acc.map (·.1), x < n
section
variable {n : Nat} {b : List Int} {acc : Lay}
theorem stepF_ok {q : Nat × Int × Nat} (h : StepOk n b acc) (hq : q.1 < n) : StepOk n b (stepF b acc q) := by
  unfold stepF
  split
  · exact ⟨ins_nodup h.nd, fun x hx => (ins_keys x).mp hx |>.elim (h.lt x) fun z => by rw [z]; exact hq⟩
  · exact h
theorem stepF_old {q : Nat × Int × Nat} {v : Nat} {t : Int × Option Nat} (h : gt acc v = some t) : ∃ t', gt (stepF b acc q) v = some t' ∧ t'.1 ≤ t.1 := by
  unfold stepF
  split
  · rename_i c
    rw [gt_ins]
    by_cases e : v = q.1
    · rw [if_pos e]
      refine ⟨_, rfl, ?_⟩
      have := c.2
      unfold better at this
      rw [← e, h] at this
      have := of_decide_eq_true this
      show q.2.1 ≤ t.1
      omega
    · rw [if_neg e]; exact ⟨t, h, Int.le_refl _⟩
  · exact ⟨t, h, Int.le_refl _⟩
theorem stepF_new {q : Nat × Int × Nat} (h : q.2.1 < b.getD q.1 0) : ∃ t', gt (stepF b acc q) q.1 = some t' ∧ t'.1 ≤ q.2.1 := by
  unfold stepF
  by_cases c : better acc q.1 q.2.1 = true
  · rw [if_pos ⟨h, c⟩, gt_ins, if_pos rfl]
    exact ⟨_, rfl, Int.le_refl _⟩
  · rw [if_neg fun z => c z.2]
    unfold better at c
    cases e : gt acc q.1 with
    | none => rw [e] at c; exact absurd rfl c
    | some t =>
      rw [e] at c
      have : ¬ q.2.1 < t.1 := fun z => c (decide_eq_true z)
      exact ⟨t, rfl, by omega⟩
theorem stepF_from {q : Nat × Int × Nat} {v : Nat} {t : Int × Option Nat} (h : gt (stepF b acc q) v = some t) : gt acc v = some t ∨ (q.1 = v ∧ t = (q.2.1, some q.2.2) ∧ q.2.1 < b.getD v 0) := by
  unfold stepF at h
  split at h
  · rename_i c
    rw [gt_ins] at h
    split at h
    · rename_i e
      cases h
      exact .inr ⟨e.symm, rfl, by rw [e]; exact c.1⟩
    · exact .inl h
  · exact .inl h
theorem fold_ok : ∀ {C : List (Nat × Int × Nat)} {acc : Lay}, StepOk n b acc → (∀ q ∈ C, q.1 < n) → StepOk n b (C.foldl (stepF b) acc)
  | [], acc, h, _ => h
  | q :: C, acc, h, hq => fold_ok (C := C) (stepF_ok h (hq q List.mem_cons_self)) fun q hq' => hq q (List.mem_cons_of_mem _ hq')
theorem fold_old : ∀ {C : List (Nat × Int × Nat)} {acc : Lay} {v : Nat} {t : Int × Option Nat}, gt acc v = some t → ∃ t', gt (C.foldl (stepF b) acc) v = some t' ∧ t'.1 ≤ t.1
  | [], acc, v, t, h => ⟨t, h, Int.le_refl _⟩
  | q :: C, acc, v, t, h => by
    obtain ⟨t1, h1, l1⟩ := stepF_old (b := b) (q := q) h
    obtain ⟨t2, h2, l2⟩ := fold_old (C := C) h1
    exact ⟨t2, h2, by omega⟩
theorem fold_new : ∀ {C : List (Nat × Int × Nat)} {acc : Lay} {q : Nat × Int × Nat}, q ∈ C → q.2.1 < b.getD q.1 0 → ∃ t', gt (C.foldl (stepF b) acc) q.1 = some t' ∧ t'.1 ≤ q.2.1
  | [], _, _, h, _ => by cases h
  | p :: C, acc, q, h, hl => by
    rcases List.mem_cons.mp h with rfl | h
    · obtain ⟨t1, h1, l1⟩ := stepF_new (acc := acc) hl
      obtain ⟨t2, h2, l2⟩ := fold_old (b := b) (C := C) h1
      exact ⟨t2, h2, by omega⟩
    · exact fold_new (C := C) h hl
theorem fold_from : ∀ {C : List (Nat × Int × Nat)} {acc : Lay} {v : Nat} {t : Int × Option Nat}, gt (C.foldl (stepF b) acc) v = some t → gt acc v = some t ∨ ∃ q ∈ C, q.1 = v ∧ t = (q.2.1, some q.2.2) ∧ q.2.1 < b.getD v 0
  | [], acc, v, t, h => .inl h
  | p :: C, acc, v, t, h => by
    rcases fold_from (C := C) h with z | ⟨q, hq, r⟩
    · rcases stepF_from z with z | z
      · exact .inl z
      · exact .inr ⟨p, List.mem_cons_self, z⟩
    · exact .inr ⟨q, List.mem_cons_of_mem _ hq, r⟩
end
/-- the edges that leave each node -/
structure LvOk (gs : List Ed) (n : Nat) (lv : Lv) : Prop where
  len : lv.length = n
  it : ∀ v, v < n → ∀ i h c, (i, h, c) ∈ lv.getD v [] ↔ gs[i]? = some (v, h, c)
section
variable {gs : List Ed} {n s : Nat} {lv : Lv}
theorem cands_mem {l : Lay} (L : LvOk gs n lv) (nd : (l.map (·.1)).Nodup) (hl : ∀ x ∈ l.map (·.1), x < n) {v : Nat} {t : Int} {i : Nat} : (v, t, i) ∈ cands lv l ↔ ∃ u b o c, gt l u = some (b, o) ∧ gs[i]? = some (u, v, c) ∧ t = b + c := by
  unfold cands candsAt
  rw [List.mem_flatMap]
  constructor
  · rintro ⟨⟨u, b, o⟩, he, hm⟩
    obtain ⟨⟨i', h', c'⟩, hq, e⟩ := List.mem_map.mp hm
    cases e
    have hu : u < n := hl u (List.mem_map.mpr ⟨_, he, rfl⟩)
    exact ⟨u, b, o, c', gt_of_mem nd he, (L.it u hu _ _ _).mp hq, rfl⟩
  · rintro ⟨u, b, o, c, hg, he, rfl⟩
    have hm := gt_mem hg
    have hu : u < n := hl u (List.mem_map.mpr ⟨_, hm, rfl⟩)
    exact ⟨(u, b, o), hm, List.mem_map.mpr ⟨(i, v, c), (L.it u hu _ _ _).mpr he, rfl⟩⟩
theorem updB_len {b : List Int} : ∀ {l : Lay}, (updB b l).length = b.length := by
  intro l
  unfold updB
  induction l generalizing b with
  | nil => rfl
  | cons e l ih => rw [List.foldl_cons, ih, List.length_set]
theorem updB_at {l : Lay} : ∀ {b : List Int}, (l.map (·.1)).Nodup → (∀ x ∈ l.map (·.1), x < b.length) → ∀ v, (updB b l).getD v 0 = match gt l v with
    | some t => t.1
    | none => b.getD v 0 := by
  unfold updB
  induction l with
  | nil => intro b _ _ v; rfl
  | cons e l ih =>
    intro b nd hl v
    rw [List.map_cons, List.nodup_cons] at nd
    have he : e.1 < b.length := hl _ (by rw [List.map_cons]; exact List.mem_cons_self)
    rw [List.foldl_cons, ih nd.2 (fun x hx => by rw [List.length_set]; exact hl x (by rw [List.map_cons]; exact List.mem_cons_of_mem _ hx)) v, gt_cons]
    by_cases q : e.1 = v
    · rw [if_pos q]
      have : gt l v = none := gt_none.mpr (q ▸ nd.1)
      rw [this]
      show (b.set e.1 e.2.1).getD v 0 = e.2.1
      rw [getD_set he, if_pos q.symm]
    · rw [if_neg q]
      cases h : gt l v with
      | some t => rfl
      | none =>
        show (b.set e.1 e.2.1).getD v 0 = b.getD v 0
        rw [getD_set he, if_neg fun z => q z.symm]
/-- what stands in the layers -/
structure LevOk (gs : List Ed) (n s k : Nat) (l : Lay) (b : List Int) : Prop where
  nd : (l.map (·.1)).Nodup
  lt : ∀ x ∈ l.map (·.1), x < n
  bl : b.length = n
  b0 : ∀ v, b.getD v 0 ≤ 0
  bw : ∀ v, v < n → b.getD v 0 < 0 → ∃ js, 1 ≤ js.length ∧ js.length ≤ k ∧ Wk gs s js v ∧ sm gs js = b.getD v 0
  lw : ∀ v t o, gt l v = some (t, o) → ∃ js, js.length = k ∧ Wk gs s js v ∧ sm gs js = t
  neg : 1 ≤ k → ∀ v t o, gt l v = some (t, o) → t < 0
theorem lev_ok (w : Wf gs n) (L : LvOk gs n lv) (hs : s < n) : ∀ k, LevOk gs n s k (lev lv n s k).1 (lev lv n s k).2
  | 0 => by
    have z : ∀ v, (List.replicate n (0 : Int)).getD v 0 = 0 := fun v => by
      rw [List.getD_eq_getElem?_getD, List.getElem?_replicate]; split <;> rfl
    refine ⟨by simp [lev], fun x hx => ?_, List.length_replicate .., fun v => by rw [show (lev lv n s 0).2 = List.replicate n 0 from rfl, z]; exact Int.le_refl _, fun v _ h => ?_, fun v t o h => ?_, fun h => absurd h (by omega)⟩
    · have hx : x = s := by simpa [lev] using hx
      rw [hx]; exact hs
    · rw [show (lev lv n s 0).2 = List.replicate n 0 from rfl, z] at h
      exact absurd h (Int.lt_irrefl _)
    · rw [show (lev lv n s 0).1 = [(s, (0, none))] from rfl, gt_cons] at h
      split at h
      · rename_i e
        cases h
        exact ⟨[], rfl, e, rfl⟩
      · cases h
  | k + 1 => by
    have I := lev_ok w L hs k
    show LevOk gs n s (k + 1) (nextL lv (lev lv n s k).2 (lev lv n s k).1) (updB (lev lv n s k).2 (nextL lv (lev lv n s k).2 (lev lv n s k).1))
    revert I
    generalize (lev lv n s k).1 = l
    generalize (lev lv n s k).2 = b
    intro I
    have ok : StepOk n b (nextL lv b l) := fold_ok (acc := []) ⟨List.nodup_nil, fun x h => by cases h⟩ fun q hq => by
      obtain ⟨u, b', o, c, _, e, _⟩ := (cands_mem L I.nd I.lt (v := q.1) (t := q.2.1) (i := q.2.2)).mp hq
      exact (w.at e).2
    have fr : ∀ v t o, gt (nextL lv b l) v = some (t, o) → ∃ u b' o' i c, gt l u = some (b', o') ∧ gs[i]? = some (u, v, c) ∧ t = b' + c ∧ t < b.getD v 0 ∧ o = some i := fun v t o h => by
      rcases fold_from h with z | ⟨q, hq, e1, e2, e3⟩
      · rw [gt_nil] at z; cases z
      · obtain ⟨u, b', o', c, h1, h2, h3⟩ := (cands_mem L I.nd I.lt (v := q.1) (t := q.2.1) (i := q.2.2)).mp hq
        cases e2
        rw [e1] at h2
        exact ⟨u, b', o', q.2.2, c, h1, h2, h3, e3, rfl⟩
    have lw : ∀ v t o, gt (nextL lv b l) v = some (t, o) → ∃ js, js.length = k + 1 ∧ Wk gs s js v ∧ sm gs js = t := fun v t o h => by
      obtain ⟨u, b', o', i, c, h1, h2, h3, h4, _⟩ := fr v t o h
      obtain ⟨js, j1, j2, j3⟩ := I.lw u b' o' h1
      refine ⟨js ++ [i], by rw [List.length_append, j1]; rfl, wk_append.mpr ⟨u, j2, v, c, h2, rfl⟩, ?_⟩
      rw [sm_append, sm_one, cst_at h2, j3, h3]
    have ng : ∀ v t o, gt (nextL lv b l) v = some (t, o) → t < 0 := fun v t o h => by
      obtain ⟨u, b', o', i, c, h1, h2, h3, h4, _⟩ := fr v t o h
      have := I.b0 v
      omega
    have ub : ∀ v, (updB b (nextL lv b l)).getD v 0 = match gt (nextL lv b l) v with
      | some t => t.1
      | none => b.getD v 0 := updB_at ok.nd fun x hx => by rw [I.bl]; exact ok.lt x hx
    refine ⟨ok.nd, ok.lt, by rw [updB_len]; exact I.bl, fun v => ?_, fun v hv h => ?_, lw, fun _ => ng⟩
    · rw [ub v]
      cases q : gt (nextL lv b l) v with
      | none => exact I.b0 v
      | some t => exact Int.le_of_lt (ng v t.1 t.2 q)
    · rw [ub v] at h ⊢
      cases q : gt (nextL lv b l) v with
      | none =>
        rw [q] at h
        obtain ⟨js, j1, j2, j3, j4⟩ := I.bw v hv h
        exact ⟨js, j1, by omega, j3, j4⟩
      | some t =>
        obtain ⟨js, j1, j2, j3⟩ := lw v t.1 t.2 q
        exact ⟨js, by omega, by omega, j2, j3⟩
theorem lev_from (w : Wf gs n) (L : LvOk gs n lv) (hs : s < n) {k v : Nat} {t : Int} {o : Option Nat} (h : gt (lev lv n s (k + 1)).1 v = some (t, o)) : ∃ u b' o' i c, gt (lev lv n s k).1 u = some (b', o') ∧ gs[i]? = some (u, v, c) ∧ t = b' + c ∧ o = some i := by
  have I := lev_ok w L hs k
  rcases fold_from h with z | ⟨q, hq, e1, e2, e3⟩
  · rw [gt_nil] at z; cases z
  · obtain ⟨u, b', o', c, h1, h2, h3⟩ := (cands_mem L I.nd I.lt (v := q.1) (t := q.2.1) (i := q.2.2)).mp hq
    cases e2
    rw [e1] at h2
    exact ⟨u, b', o', q.2.2, c, h1, h2, h3, rfl⟩
/-- the fewest are found -/
theorem lev_full (w : Wf gs n) (L : LvOk gs n lv) (hs : s < n) {is : List Nat} (hw : Wk gs s is s) (hsm : sm gs is < 0) (hp : ∀ p q, is = p ++ q → p ≠ [] → sm gs p < 0) (hm : ∀ k, k < is.length → ¬ CN gs k) :
    ∀ (k : Nat) (a r : List Nat), a.length = k → is = a ++ r → ∀ v, Wk gs s a v → ∃ t o, gt (lev lv n s k).1 v = some (t, o) ∧ t ≤ sm gs a
  | 0, a, r, ha, e, v, wa => by
    have ha := List.length_eq_zero_iff.mp ha
    subst ha
    have wa : s = v := wa
    subst wa
    exact ⟨0, none, by rw [show (lev lv n s 0).1 = [(s, (0, none))] from rfl, gt_cons, if_pos rfl], Int.le_refl _⟩
  | k + 1, a, r, ha, e, v, wa => by
    obtain ⟨a', i, rfl⟩ : ∃ a' i, a = a' ++ [i] := by
      have h0 : a ≠ [] := fun z => by rw [z] at ha; cases ha
      exact ⟨a.dropLast, a.getLast h0, (List.dropLast_concat_getLast h0).symm⟩
    rw [List.length_append, List.length_singleton] at ha
    obtain ⟨u, w1, m, c, e1, w2⟩ := wk_append.mp wa
    have w2 : m = v := w2
    subst w2
    obtain ⟨t, o, h1, h2⟩ := lev_full w L hs hw hsm hp hm k a' ([i] ++ r) (by omega) (by rw [e, List.append_assoc]) u w1
    have I := lev_ok w L hs k
    have hv := (w.at e1).2
    have sa : sm gs (a' ++ [i]) = sm gs a' + c := by rw [sm_append, sm_one, cst_at e1]
    have na : sm gs (a' ++ [i]) < 0 := hp _ r e (by simp)
    have good : t + c < (lev lv n s k).2.getD m 0 := by
      apply Decidable.byContradiction
      intro hb
      obtain ⟨js, j1, j2, j3, j4⟩ := I.bw m hv (by omega)
      have wr : Wk gs m r s := by
        rw [e] at hw
        obtain ⟨m', x1, x2⟩ := wk_append.mp hw
        rw [wk_end x1 wa] at x2
        exact x2
      have se : sm gs is = sm gs (a' ++ [i]) + sm gs r := by rw [e, sm_append]
      have le : is.length = k + 1 + r.length := by rw [e, List.length_append, List.length_append, List.length_singleton]; omega
      refine hm (js ++ r).length (by rw [List.length_append]; omega) ⟨s, js ++ r, rfl, fun z => ?_, wk_append.mpr ⟨m, j3, wr⟩, by rw [sm_append]; omega⟩
      have := congrArg List.length z
      rw [List.length_append, List.length_nil] at this
      omega
    obtain ⟨t', h3, h4⟩ := fold_new (b := (lev lv n s k).2) (C := cands lv (lev lv n s k).1) (acc := []) (q := (m, t + c, i)) ((cands_mem L I.nd I.lt).mpr ⟨u, t, o, c, h1, e1, rfl⟩) good
    exact ⟨t'.1, t'.2, h3, by
      have h4 : t'.1 ≤ t + c := h4
      omega⟩
/-- found at k: a falling closed walk of k edges -/
theorem lev_cn (w : Wf gs n) (L : LvOk gs n lv) (hs : s < n) {k : Nat} (hk : 1 ≤ k) (h : s ∈ (lev lv n s k).1.map (·.1)) : CN gs k := by
  have I := lev_ok w L hs k
  cases q : gt (lev lv n s k).1 s with
  | none => exact absurd h (gt_none.mp q)
  | some t =>
    obtain ⟨js, j1, j2, j3⟩ := I.lw s t.1 t.2 q
    have := I.neg hk s t.1 t.2 q
    exact ⟨s, js, j1, fun z => by rw [z] at j1; simp at j1; omega, j2, by omega⟩
/-- nothing found up to k: no falling closed walk of at most k edges -/
theorem lev_no (w : Wf gs n) (L : LvOk gs n lv) : ∀ k, (∀ j, 1 ≤ j → j ≤ k → ∀ s, s < n → s ∉ (lev lv n s j).1.map (·.1)) → ∀ j, j ≤ k → ¬ CN gs j := by
  intro k h j hj c
  obtain ⟨m, hm, ⟨s, is, h1, h2, h3, h4⟩, hmin⟩ := cn_min j c
  obtain ⟨r, js, e1, e2, e3, e4⟩ := turn_neg h3 h4
  have hlen : js.length = m := by omega
  have js0 : js ≠ [] := fun z => by
    rw [z] at e1
    exact h2 (List.length_eq_zero_iff.mp e1.symm)
  have hr : r < n := by
    cases js with
    | nil => exact absurd rfl js0
    | cons i js =>
      obtain ⟨x, c, e, _⟩ := e2
      exact (w.at e).1
  obtain ⟨t, o, g1, g2⟩ := lev_full w L hr e2 (by omega) e4 (by rw [hlen]; exact hmin) m js [] hlen (List.append_nil js).symm r e2
  have m1 : 1 ≤ m := by
    cases js with
    | nil => exact absurd rfl js0
    | cons i js => rw [List.length_cons] at hlen; omega
  exact h m m1 (by omega) r hr (by rw [show ∀ l : List Nat, (r ∈ l) = ¬ ¬ r ∈ l from fun l => propext ⟨fun a b => b a, fun a => Decidable.byContradiction a⟩]; exact fun z => by rw [gt_none.mpr z] at g1; cases g1)
end
end GK.N2

namespace GK.N2

/-! ### the law's own rows -/
def betterI (acc : List (Nat × Int)) (h : Nat) (t : Int) : Bool := match gt acc h with
  | none => true
  | some b => decide (t < b)
def lstep (row acc : List (Nat × Int)) (e : Ed) : List (Nat × Int) := match gt row e.1 with
  | none => acc
  | some b => if betterI acc e.2.1 (b + e.2.2) = true then ins acc e.2.1 (b + e.2.2) else acc
def lrow (es : List Ed) (row : List (Nat × Int)) : List (Nat × Int) := es.foldl (lstep row) []
def lr (es : List Ed) (s : Nat) : Nat → List (Nat × Int)
  | 0 => [(s, 0)]
  | k + 1 => lrow es (lr es s k)
section
variable {row acc : List (Nat × Int)} {e : Ed} {v : Nat} {t : Int}
theorem lold (h : gt acc v = some t) : ∃ t', gt (lstep row acc e) v = some t' ∧ t' ≤ t := by
  unfold lstep
  split
  · exact ⟨t, h, Int.le_refl _⟩
  · rename_i b hb
    split
    · rename_i c
      rw [gt_ins]
      by_cases q : v = e.2.1
      · rw [if_pos q]
        refine ⟨_, rfl, ?_⟩
        unfold betterI at c
        rw [← q, h] at c
        have := of_decide_eq_true c
        omega
      · rw [if_neg q]; exact ⟨t, h, Int.le_refl _⟩
    · exact ⟨t, h, Int.le_refl _⟩
theorem lnew {b : Int} (h : gt row e.1 = some b) : ∃ t', gt (lstep row acc e) e.2.1 = some t' ∧ t' ≤ b + e.2.2 := by
  unfold lstep
  rw [h]
  show ∃ t', gt (if betterI acc e.2.1 (b + e.2.2) = true then ins acc e.2.1 (b + e.2.2) else acc) e.2.1 = some t' ∧ t' ≤ b + e.2.2
  split
  · rw [gt_ins, if_pos rfl]; exact ⟨_, rfl, Int.le_refl _⟩
  · rename_i c
    unfold betterI at c
    cases q : gt acc e.2.1 with
    | none => rw [q] at c; exact absurd rfl c
    | some t =>
      rw [q] at c
      have : ¬ b + e.2.2 < t := fun z => c (decide_eq_true z)
      exact ⟨t, rfl, by omega⟩
theorem lfrom (h : gt (lstep row acc e) v = some t) : gt acc v = some t ∨ ∃ b, e.2.1 = v ∧ gt row e.1 = some b ∧ t = b + e.2.2 := by
  unfold lstep at h
  split at h
  · exact .inl h
  · rename_i b hb
    split at h
    · rw [gt_ins] at h
      split at h
      · rename_i q
        cases h
        exact .inr ⟨b, q.symm, hb, rfl⟩
      · exact .inl h
    · exact .inl h
theorem lkeys (nd : (acc.map (·.1)).Nodup) : ((lstep row acc e).map (·.1)).Nodup ∧ (lstep row acc e).length ≤ acc.length + 1 ∧ ∀ x ∈ (lstep row acc e).map (·.1), x ∈ acc.map (·.1) ∨ x = e.2.1 := by
  unfold lstep
  split
  · exact ⟨nd, by omega, fun x hx => .inl hx⟩
  · split
    · exact ⟨ins_nodup nd, ins_len, fun x hx => (ins_keys x).mp hx⟩
    · exact ⟨nd, by omega, fun x hx => .inl hx⟩
end
section
variable {row : List (Nat × Int)}
theorem lfold_old : ∀ {es : List Ed} {acc : List (Nat × Int)} {v : Nat} {t : Int}, gt acc v = some t → ∃ t', gt (es.foldl (lstep row) acc) v = some t' ∧ t' ≤ t
  | [], acc, v, t, h => ⟨t, h, Int.le_refl _⟩
  | e :: es, acc, v, t, h => by
    obtain ⟨t1, h1, l1⟩ := lold (row := row) (e := e) h
    obtain ⟨t2, h2, l2⟩ := lfold_old (es := es) h1
    exact ⟨t2, h2, by omega⟩
theorem lfold_new : ∀ {es : List Ed} {acc : List (Nat × Int)} {e : Ed} {b : Int}, e ∈ es → gt row e.1 = some b → ∃ t', gt (es.foldl (lstep row) acc) e.2.1 = some t' ∧ t' ≤ b + e.2.2
  | [], _, _, _, h, _ => by cases h
  | p :: es, acc, e, b, h, hb => by
    rcases List.mem_cons.mp h with rfl | h
    · obtain ⟨t1, h1, l1⟩ := lnew (acc := acc) hb
      obtain ⟨t2, h2, l2⟩ := lfold_old (row := row) (es := es) h1
      exact ⟨t2, h2, by omega⟩
    · exact lfold_new (es := es) h hb
theorem lfold_from : ∀ {es : List Ed} {acc : List (Nat × Int)} {v : Nat} {t : Int}, gt (es.foldl (lstep row) acc) v = some t → gt acc v = some t ∨ ∃ e ∈ es, ∃ b, e.2.1 = v ∧ gt row e.1 = some b ∧ t = b + e.2.2
  | [], acc, v, t, h => .inl h
  | p :: es, acc, v, t, h => by
    rcases lfold_from (es := es) h with z | ⟨e, he, r⟩
    · rcases lfrom z with z | z
      · exact .inl z
      · exact .inr ⟨p, List.mem_cons_self, z⟩
    · exact .inr ⟨e, List.mem_cons_of_mem _ he, r⟩
theorem lfold_keys : ∀ {es : List Ed} {acc : List (Nat × Int)}, (acc.map (·.1)).Nodup → ((es.foldl (lstep row) acc).map (·.1)).Nodup ∧ (es.foldl (lstep row) acc).length ≤ acc.length + es.length
  | [], acc, h => ⟨h, by simp⟩
  | p :: es, acc, h => by
    obtain ⟨a, b, _⟩ := lkeys (row := row) (e := p) h
    obtain ⟨c, d⟩ := lfold_keys (es := es) a
    exact ⟨c, by rw [List.length_cons]; show (es.foldl (lstep row) (lstep row acc p)).length ≤ _; omega⟩
end
structure RowOk (es : List Ed) (s k : Nat) (row : List (Nat × Int)) : Prop where
  lw : ∀ v t, gt row v = some t → ∃ js, js.length = k ∧ Wk es s js v ∧ sm es js = t
  up : ∀ js v, js.length = k → Wk es s js v → ∃ t, gt row v = some t ∧ t ≤ sm es js
theorem lr_ok {es : List Ed} {s : Nat} : ∀ k, RowOk es s k (lr es s k)
  | 0 => by
    refine ⟨fun v t h => ?_, fun js v h w => ?_⟩
    · rw [show lr es s 0 = [(s, 0)] from rfl, gt_cons] at h
      split at h
      · rename_i e
        cases h
        exact ⟨[], rfl, e, rfl⟩
      · cases h
    · have h := List.length_eq_zero_iff.mp h
      subst h
      have w : s = v := w
      subst w
      exact ⟨0, by rw [show lr es s 0 = [(s, 0)] from rfl, gt_cons, if_pos rfl], Int.le_refl _⟩
  | k + 1 => by
    have I := lr_ok (es := es) (s := s) k
    refine ⟨fun v t h => ?_, fun js v h w => ?_⟩
    · rcases lfold_from (show gt (es.foldl (lstep (lr es s k)) []) v = some t from h) with z | ⟨⟨u, v', c⟩, he, b, rfl, hb, rfl⟩
      · rw [gt_nil] at z; cases z
      · obtain ⟨js, j1, j2, j3⟩ := I.lw u b hb
        obtain ⟨i, hi⟩ := List.mem_iff_getElem?.mp he
        exact ⟨js ++ [i], by rw [List.length_append, j1]; rfl, wk_append.mpr ⟨u, j2, v', c, hi, rfl⟩, by rw [sm_append, sm_one, cst_at hi, j3]⟩
    · have h0 : js ≠ [] := fun z => by rw [z] at h; cases h
      obtain ⟨a, i, rfl⟩ : ∃ a i, js = a ++ [i] := ⟨js.dropLast, js.getLast h0, (List.dropLast_concat_getLast h0).symm⟩
      rw [List.length_append, List.length_singleton] at h
      obtain ⟨u, w1, m, c, e, w2⟩ := wk_append.mp w
      have w2 : m = v := w2
      subst w2
      obtain ⟨t, g, l⟩ := I.up a u (by omega) w1
      obtain ⟨t', g', l'⟩ := lfold_new (row := lr es s k) (acc := []) (List.mem_of_getElem? e) g
      refine ⟨t', g', ?_⟩
      rw [sm_append, sm_one, cst_at e]
      have l' : t' ≤ t + c := l'
      omega
/-- every falling closed walk passes a start -/
def Hit (es : List Ed) (n : Nat) (st : List Nat) : Prop := (∀ v, v < n → v ∈ st) ∨ ∃ (p : Nat → Int) (h : Nat), h ∈ st ∧ ∀ (i u v : Nat) (c : Int), es[i]? = some (u, v, c) → v ≠ h → p v ≤ p u + c
theorem hit_walk {es : List Ed} {p : Nat → Int} {h : Nat} (hp : ∀ (i u v : Nat) (c : Int), es[i]? = some (u, v, c) → v ≠ h → p v ≤ p u + c) : ∀ {is : List Nat} {s v : Nat}, Wk es s is v → (∃ a b, is = a ++ b ∧ a ≠ [] ∧ Wk es s a h ∧ Wk es h b v) ∨ p v - p s ≤ sm es is
  | [], s, v, w => .inr (by
    have w : s = v := w
    subst w
    show p s - p s ≤ (0 : Int)
    omega)
  | i :: is, s, v, ⟨m, c, e, w⟩ => by
    by_cases q : m = h
    · subst q
      exact .inl ⟨[i], is, rfl, by simp, ⟨m, c, e, rfl⟩, w⟩
    · rcases hit_walk hp w with ⟨a, b, e1, e2, e3, e4⟩ | z
      · exact .inl ⟨i :: a, b, by rw [e1]; rfl, by simp, ⟨m, c, e, e3⟩, e4⟩
      · have := hp i s m c e q
        exact .inr (by
          show p v - p s ≤ cst es i + sm es is
          rw [cst_at e]; omega)
theorem Hit.start {es : List Ed} {n k : Nat} {st : List Nat} (w : Wf es n) (H : Hit es n st) (c : CN es k) : ∃ s js, s ∈ st ∧ js.length = k ∧ Wk es s js s ∧ sm es js < 0 := by
  obtain ⟨s, is, h1, h2, h3, h4⟩ := c
  rcases H with H | ⟨p, h, hm, hp⟩
  · refine ⟨s, is, H s ?_, h1, h3, h4⟩
    cases is with
    | nil => exact absurd rfl h2
    | cons i is =>
      obtain ⟨m, c, e, _⟩ := h3
      exact (w.at e).1
  · rcases hit_walk hp h3 with ⟨a, b, e1, e2, e3, e4⟩ | z
    · refine ⟨h, b ++ a, hm, by rw [← h1, e1, List.length_append, List.length_append, Nat.add_comm], wk_append.mpr ⟨s, e4, e3⟩, ?_⟩
      rw [e1, sm_append] at h4
      rw [sm_append]
      omega
    · omega
def FewOk (es : List Ed) (f : Nat) : Prop := (f = 0 ∧ ∀ k, ¬ CN es k) ∨ (0 < f ∧ CN es f ∧ ∀ k, k < f → ¬ CN es k)
theorem few_found {es : List Ed} {n f : Nat} {st : List Nat} (w : Wf es n) (H : Hit es n st) {s : Nat} {t : Int} (hf : 0 < f) (hg : gt (lr es s f) s = some t) (ht : t < 0) (hm : ∀ j, 1 ≤ j → j < f → ∀ s ∈ st, ∀ t, gt (lr es s j) s = some t → 0 ≤ t) : FewOk es f := by
  refine .inr ⟨hf, ?_, fun k hk c => ?_⟩
  · obtain ⟨js, j1, j2, j3⟩ := (lr_ok (es := es) (s := s) f).lw s t hg
    exact ⟨s, js, j1, fun z => by rw [z] at j1; simp at j1; omega, j2, by omega⟩
  · obtain ⟨m, hmk, cm, _⟩ := cn_min k c
    obtain ⟨s', js, h1, h2, h3, h4⟩ := H.start w cm
    obtain ⟨t', g, l⟩ := (lr_ok (es := es) (s := s') m).up js s' h2 h3
    have m0 : 1 ≤ m := by
      obtain ⟨_, is, e1, e2, _⟩ := cm
      cases is with
      | nil => exact absurd rfl e2
      | cons i is => rw [List.length_cons] at e1; omega
    have := hm m m0 (by omega) s' h1 t' g
    omega
theorem cn_le {es : List Ed} {n k : Nat} (w : Wf es n) (c : CN es k) (hm : ∀ j, j < k → ¬ CN es j) : k ≤ n := by
  obtain ⟨s, is, e1, e2, e3, e4⟩ := c
  have := Least.le w (s := s) (is := is) ⟨e2, e3, e4, by rw [e1]; exact hm⟩
  omega
theorem few_none {es : List Ed} {n : Nat} {st : List Nat} (w : Wf es n) (H : Hit es n st) (hm : ∀ j, 1 ≤ j → j ≤ n → ∀ s ∈ st, ∀ t, gt (lr es s j) s = some t → 0 ≤ t) : FewOk es 0 := by
  refine .inl ⟨rfl, fun k c => ?_⟩
  obtain ⟨m, hmk, cm, hmin⟩ := cn_min k c
  have hn := cn_le w cm hmin
  obtain ⟨s', js, h1, h2, h3, h4⟩ := H.start w cm
  obtain ⟨t', g, l⟩ := (lr_ok (es := es) (s := s') m).up js s' h2 h3
  have m0 : 1 ≤ m := by
    obtain ⟨_, is, e1, e2, _⟩ := cm
    cases is with
    | nil => exact absurd rfl e2
    | cons i is => rw [List.length_cons] at e1; omega
  have := hm m m0 hn s' h1 t' g
  omega
theorem FewOk.least {es : List Ed} {f s : Nat} {is : List Nat} (F : FewOk es f) (h : Least es s is) : is.length = f := by
  rcases F with ⟨rfl, h0⟩ | ⟨h0, h1, h2⟩
  · exact absurd h.cn (h0 _)
  · apply Decidable.byContradiction
    intro q
    by_cases c : is.length < f
    · exact h2 _ c h.cn
    · exact h.2.2.2 f (by omega) h1
end GK.N2

namespace GK.N2

/-! ### the steps of the program's tables -/
structure LvK (gs : List Ed) (n i : Nat) (lv : Lv) : Prop where
  len : lv.length = n
  it : ∀ v, v < n → ∀ j h c, (j, h, c) ∈ lv.getD v [] ↔ j < i ∧ gs[j]? = some (v, h, c)
  le : ∀ v, v < n → (lv.getD v []).length ≤ i
theorem LvK.start (gs : List Ed) (n : Nat) : LvK gs n 0 (List.replicate n []) := by
  have z : ∀ v, (List.replicate n ([] : List (Nat × Nat × Int))).getD v [] = [] := fun v => by
    rw [List.getD_eq_getElem?_getD, List.getElem?_replicate]; split <;> rfl
  refine ⟨List.length_replicate .., fun v hv j h c => ?_, fun v hv => ?_⟩
  · rw [z]; simp
  · rw [z]; exact Nat.le_refl _
theorem LvK.step {gs : List Ed} {n i u v : Nat} {c : Int} {lv : Lv} (L : LvK gs n i lv) (e : gs[i]? = some (u, v, c)) (hu : u < n) : LvK gs n (i + 1) (lv.set u (lv.getD u [] ++ [(i, v, c)])) := by
  have g : ∀ w, (lv.set u (lv.getD u [] ++ [(i, v, c)])).getD w [] = if w = u then lv.getD u [] ++ [(i, v, c)] else lv.getD w [] := fun w => getD_set (by rw [L.len]; exact hu)
  refine ⟨by rw [List.length_set]; exact L.len, fun w hw j h d => ?_, fun w hw => ?_⟩
  · rw [g]
    by_cases q : w = u
    · subst q
      rw [if_pos rfl, List.mem_append, List.mem_singleton, L.it w hw]
      constructor
      · rintro (⟨a, b⟩ | z)
        · exact ⟨by omega, b⟩
        · cases z
          exact ⟨Nat.lt_succ_self _, e⟩
      · rintro ⟨a, b⟩
        by_cases r : j = i
        · subst r
          rw [e] at b
          cases b
          exact .inr rfl
        · exact .inl ⟨by omega, b⟩
    · rw [if_neg q, L.it w hw]
      constructor
      · rintro ⟨a, b⟩; exact ⟨by omega, b⟩
      · rintro ⟨a, b⟩
        refine ⟨?_, b⟩
        by_cases r : j = i
        · subst r
          rw [e] at b
          cases b
          exact absurd rfl q
        · omega
  · rw [g]
    split
    · rw [List.length_append, List.length_singleton]
      have := L.le u hu
      omega
    · have := L.le w hw
      omega
theorem LvK.done {gs : List Ed} {n : Nat} {lv : Lv} (L : LvK gs n gs.length lv) : LvOk gs n lv :=
  ⟨L.len, fun v hv i h c => by rw [L.it v hv]; exact ⟨fun z => z.2, fun z => ⟨(List.getElem?_eq_some_iff.mp z).1, z⟩⟩⟩
section
variable {b : List Int} {acc : Lay} {h i : Nat} {t : Int}
theorem stepF_a (h1 : t < pf b h) (h2 : gt acc h = none) : stepF b acc (h, t, i) = ins acc h (t, some i) := by
  unfold stepF better
  rw [if_pos ⟨h1, by rw [h2]⟩]
theorem stepF_b {x : Int × Option Nat} (h1 : t < pf b h) (h2 : gt acc h = some x) (h3 : t < x.1) : stepF b acc (h, t, i) = ins acc h (t, some i) := by
  unfold stepF better
  rw [if_pos ⟨h1, by rw [h2]; exact decide_eq_true h3⟩]
theorem stepF_c (h1 : ¬ t < pf b h) : stepF b acc (h, t, i) = acc := by
  unfold stepF
  rw [if_neg fun z => h1 z.1]
theorem stepF_d {x : Int × Option Nat} (h2 : gt acc h = some x) (h3 : ¬ t < x.1) : stepF b acc (h, t, i) = acc := by
  unfold stepF better
  rw [if_neg fun z => by
    have := z.2
    rw [h2] at this
    exact h3 (of_decide_eq_true this)]
end
theorem StepOk.len {n : Nat} {b : List Int} {acc : Lay} (h : StepOk n b acc) : acc.length ≤ n := by
  have := nodup_lt n _ h.nd h.lt
  rwa [List.length_map] at this
theorem red_len {p : Nat → Int} {es : List Ed} : (red p es).length = es.length := by unfold red; rw [List.length_map]
theorem red_wf {p : Nat → Int} {es : List Ed} {n : Nat} (w : Wf es n) : Wf (red p es) n := fun e he => by
  unfold red at he
  obtain ⟨x, hx, rfl⟩ := List.mem_map.mp he
  exact w x hx
theorem red_at {p : Nat → Int} {es : List Ed} {i u v : Nat} {c : Int} (h : es[i]? = some (u, v, c)) : (red p es)[i]? = some (u, v, c + p u - p v) := red_get.mpr (by rw [h, show c + p u - p v - p u + p v = c by omega])
theorem LvOk.lt {gs : List Ed} {n v : Nat} {lv : Lv} (w : Wf gs n) (L : LvOk gs n lv) (hv : v < n) {q : Nat × Nat × Int} (h : q ∈ lv.getD v []) : q.2.1 < n := (w.at ((L.it v hv q.1 q.2.1 q.2.2).mp h)).2
end GK.N2
namespace GK.N2
def hd (es : List Ed) (i : Nat) : Nat := match es[i]? with
  | some (_, v, _) => v
  | none => 0
theorem hd_at {es : List Ed} {i u v : Nat} {c : Int} (h : es[i]? = some (u, v, c)) : hd es i = v := by unfold hd; rw [h]
theorem wk_heads {es : List Ed} : ∀ {is : List Nat} {s v : Nat}, Wk es s is v → ∀ k, k < is.length → (is.map (hd es))[k]? = some (if k + 1 < is.length then ((is.map (tl es))[k + 1]?).getD 0 else v)
  | [], _, _, _, k, hk => absurd hk (Nat.not_lt_zero _)
  | [i], s, v, ⟨m, c, e, w⟩, k, hk => by
    have w : m = v := w
    subst w
    have : k = 0 := by
      rw [List.length_singleton] at hk
      omega
    subst this
    show some (hd es i) = some m
    rw [hd_at e]
  | i :: j :: is, s, v, ⟨m, c, e, w⟩, k, hk => by
    cases k with
    | zero =>
      show some (hd es i) = some (if 0 + 1 < (i :: j :: is).length then ((tl es j :: is.map (tl es))[0]?).getD 0 else v)
      rw [if_pos (by rw [List.length_cons, List.length_cons]; omega), hd_at e]
      show some m = some (tl es j)
      rw [wk_tl w]
    | succ k =>
      have ih := wk_heads w k (by simp only [List.length_cons] at hk ⊢; omega)
      show ((j :: is).map (hd es))[k]? = _
      rw [ih]
      congr 1
      by_cases q : k + 1 < (j :: is).length
      · rw [if_pos q, if_pos (by simp only [List.length_cons] at q ⊢; omega)]; rfl
      · rw [if_neg q, if_neg (by simp only [List.length_cons] at q ⊢; omega)]
end GK.N2
namespace GK.N2
theorem sum_cst {es : List Ed} : ∀ (is : List Nat), (is.map (cst es)).sum = sm es is
  | [] => rfl
  | i :: is => by rw [List.map_cons, List.sum_cons, sum_cst is]; rfl
end GK.N2

namespace GK
open PySem PySem.Spec PyProof.Rows L2
open N2
/-! ### graphs as data -/
def edD (e : Ed) : D := .tup [natD e.1, natD e.2.1, .int e.2.2]
def edsD (es : List Ed) : List D := es.map edD
def optD : Option Nat → D
  | none => .non
  | some i => natD i
theorem edsD_get {es : List Ed} {i : Nat} {e : Ed} (h : es[i]? = some e) : (edsD es)[i]? = some (edD e) := by unfold edsD; rw [List.getElem?_map, h]; rfl
structure LaOk (es : List Ed) (n : Nat) (la : List (Option Nat)) : Prop where
  wf : Wf es n
  ll : la.length = n
  n0 : n ≤ 100
  it : ∀ v i, v < n → lf la v = some i → ∃ u c, es[i]? = some (u, v, c)
theorem N2.Inv.la {es : List Ed} {n : Nat} {ps : List Int} {la : List (Option Nat)} (I : Inv es n ps la) (w : Wf es n) (h : n ≤ 100) : LaOk es n la := ⟨w, I.ll, h, fun v i hv e => let ⟨u, c, q, _⟩ := I.i1 v i hv e; ⟨u, c, q⟩⟩
theorem la_get {la : List (Option Nat)} {v : Nat} (h : v < la.length) : (la.map optD)[v]? = some (optD (lf la v)) := by
  rw [List.getElem?_map, List.getElem?_eq_getElem h]
  unfold lf
  rw [List.getD_eq_getElem?_getD, List.getElem?_eq_getElem h]; rfl
theorem ps_get {ps : List Int} {v : Nat} (h : v < ps.length) : (ps.map D.int)[v]? = some (.int (pf ps v)) := by
  rw [List.getElem?_map, List.getElem?_eq_getElem h]
  unfold pf
  rw [List.getD_eq_getElem?_getD, List.getElem?_eq_getElem h]; rfl
end GK
namespace GK
open PySem PySem.Spec PyProof.Rows L2
open N2
/-! ### tables by node as data -/
def kvN {β : Type} (f : β → D) (e : Nat × β) : Key × D := (.inl (e.1 : Int), f e.2)
def nT {β : Type} (f : β → D) (l : List (Nat × β)) : D := .dK (l.map (kvN f))
section
variable {β : Type} {f : β → D} {l : List (Nat × β)} {k : Nat} {v : β}
theorem key_ne {a b : Nat} : ((Sum.inl (a : Int) : Key) = Sum.inl (b : Int)) ↔ a = b := ⟨fun h => Int.ofNat.inj (Sum.inl.inj h), fun h => by rw [h]⟩
theorem putD_nat : putD (l.map (kvN f)) (Sum.inl (k : Int) : Key) (f v) = (ins l k v).map (kvN f) := by
  unfold putD ins
  have e1 : ((l.map (kvN f)).any fun e => decide (e.1 = (Sum.inl (k : Int) : Key))) = l.any fun e => decide (e.1 = k) := by
    rw [List.any_map]
    congr 1
    funext e
    show decide ((Sum.inl (e.1 : Int) : Key) = Sum.inl (k : Int)) = decide (e.1 = k)
    by_cases h : e.1 = k
    · rw [decide_eq_true h, decide_eq_true (key_ne.mpr h)]
    · rw [decide_eq_false h, decide_eq_false (fun z => h (key_ne.mp z))]
  rw [e1]
  by_cases c : (l.any fun e => decide (e.1 = k)) = true
  · rw [if_pos c, if_pos c, List.map_map, List.map_map]
    refine List.map_congr_left fun e _ => ?_
    show (if (Sum.inl (e.1 : Int) : Key) = Sum.inl (k : Int) then ((Sum.inl (e.1 : Int) : Key), f v) else kvN f e) = kvN f (if e.1 = k then (e.1, v) else e)
    by_cases h : e.1 = k
    · rw [if_pos (key_ne.mpr h), if_pos h]; rfl
    · rw [if_neg (fun z => h (key_ne.mp z)), if_neg h]
  · rw [if_neg c, if_neg c, List.map_append]; rfl
theorem getD_nat : getD' (l.map (kvN f)) (Sum.inl (k : Int) : Key) = (gt l k).map f := by
  unfold getD'
  induction l with
  | nil => rfl
  | cons e l ih =>
    rw [List.map_cons, List.find?_cons, gt_cons]
    by_cases h : e.1 = k
    · rw [if_pos h]
      have : decide ((kvN f e).1 = (Sum.inl (k : Int) : Key)) = true := decide_eq_true (key_ne.mpr h)
      rw [this]; rfl
    · rw [if_neg h]
      have : decide ((kvN f e).1 = (Sum.inl (k : Int) : Key)) = false := decide_eq_false (fun z => h (key_ne.mp z))
      rw [this]
      exact ih
theorem lookD_nat : lookD (nT f l) (natD k) = some ((gt l k).map f) := by
  show (keyOf (natD k)).map (getD' (l.map (kvN f))) = _
  show some (getD' (l.map (kvN f)) (Sum.inl (k : Int) : Key)) = _
  rw [getD_nat]
theorem dget_go {R : D → Prop} (h : gt l k = some v) (q : R (f v)) : gDGet (nT f l) (natD k) R := ⟨f v, by rw [lookD_nat, h]; rfl, q⟩
theorem din_go {b : Bool} {R : D → Prop} (q : R (.bl (b ^^ (gt l k).isSome))) : gDIn b (natD k) (nT f l) R := ⟨(gt l k).map f, lookD_nat, by rw [Option.isSome_map]; exact q⟩
theorem dget1_go {R : D → Prop} (q : R (((gt l k).map f).getD .non)) : gDGet1 (nT f l) (natD k) R := ⟨_, lookD_nat, q⟩
theorem dget2_go {x : D} {R : D → Prop} (q : R (((gt l k).map f).getD x)) : gDGet2 (nT f l) (natD k) x R := ⟨_, lookD_nat, q⟩
end
structure GOk (es : List Ed) (n : Nat) : Prop where
  wf : Wf es n
  n0 : n ≤ 100
  le : es.length ≤ 200
def trD (q : Nat × Nat × Int) : D := .tup [natD q.1, natD q.2.1, .int q.2.2]
def lvI (l : List (Nat × Nat × Int)) : D := .lst (l.map trD)
def lvD (lv : Lv) : D := .lst (lv.map lvI)
def pvD (q : Int × Option Nat) : D := .tup [.int q.1, optD q.2]
abbrev layD (l : Lay) : D := nT pvD l
abbrev rowD (l : List (Nat × Int)) : D := nT D.int l
abbrev seenD (l : List (Nat × Nat)) : D := nT natD l
structure GrOk (n : Nat) (es : List Ed) (st : List Nat) : Prop where
  g : GOk es n
  nd : st.Nodup
  sn : ∀ s ∈ st, s < n
  hit : Hit es n st
def graphD (n : Nat) (es : List Ed) (st : List Nat) : D := .tup [natD n, .lst (edsD es), .lst (st.map natD)]
def prD (e : Nat × Nat) : D := .tup [natD e.1, natD e.2]
end GK
namespace GK
open PySem PySem.Spec PyProof.Rows L2
open N2
theorem ownDK_nT {β : Type} {f : β → D} {l : List (Nat × β)} {ρ : Env} {i n : Nat} {k : List (Key × D) → Prop} (e : slot ρ i = some (n + 1, nT f l)) (q : k (l.map (kvN f))) : ownDK ρ i n k := by
  unfold ownDK
  rw [e]
  exact ⟨rfl, q⟩
theorem putK_go {β : Type} {f : β → D} {l : List (Nat × β)} {ρ : Env} {i k : Nat} {v : β} {N : Env → Prop} (e : slot ρ i = some (1, nT f l)) (hl : l.length < sizeLine) (q : N (ρ.set i (some (1, nT f (ins l k v))))) :
    ownDK ρ i 0 fun ds => ds.length < sizeLine ∧ N (ρ.set i (some (1, .dK (putD ds (Sum.inl (k : Int) : Key) (f v))))) :=
  ownDK_nT e ⟨by rw [List.length_map]; exact hl, by rw [putD_nat]; exact q⟩
end GK
namespace GK
open PySem PySem.Spec PyProof.Rows L2
open N2
theorem rep_go {x : D} {n : Nat} {R : D → Prop} (h : n ≤ sizeLine) (q : R (.lst (List.replicate n x))) : gRep (.lst [x]) (.int (n : Int)) R := by
  rw [szL] at h
  refine ⟨by omega, by omega, by rw [List.length_singleton, Int.toNat_natCast, szL]; omega, ?_⟩
  rw [Int.toNat_natCast, List.flatten_replicate_singleton]
  exact q
theorem keys_nT {β : Type} {f : β → D} : ∀ {l : List (Nat × β)}, keysD (nT f l) = some ((l.map (·.1)).map natD) := by
  intro l
  show some ((l.map (kvN f)).map fun e => keyD e.1) = _
  rw [List.map_map, List.map_map]
  rfl
theorem en_drop {es : List Ed} {i : Nat} {x : D} {r : List D} (h : x :: r = (enumL (edsD es)).drop i) : ∃ e, es[i]? = some e ∧ x = .tup [natD i, edD e] ∧ r = (enumL (edsD es)).drop (i + 1) := by
  have hi : i < (enumL (edsD es)).length := by
    have := congrArg List.length h
    rw [List.length_drop, List.length_cons] at this
    omega
  have hi2 : i < es.length := by rw [enumL_len] at hi; unfold edsD at hi; rwa [List.length_map] at hi
  have he : es[i]? = some es[i] := List.getElem?_eq_getElem hi2
  have hx := enumL_get (edsD_get he)
  rw [List.drop_eq_getElem_cons hi] at h
  injection h with h1 h2
  rw [List.getElem?_eq_getElem hi] at hx
  exact ⟨es[i], he, h1.trans (Option.some.inj hx), h2⟩
theorem en_end {es : List Ed} {i : Nat} (h : [] = (enumL (edsD es)).drop i) : es.length ≤ i := by
  have := congrArg List.length h
  rw [List.length_drop, enumL_len, List.length_nil] at this
  unfold edsD at this
  rw [List.length_map] at this
  omega
theorem no_cn0 {es : List Ed} (w : Wf es 0) (k : Nat) : ¬ CN es k := by
  rintro ⟨s, is, _, h, hw, _⟩
  cases is with
  | nil => exact h rfl
  | cons i is =>
    obtain ⟨m, c, e, _⟩ := hw
    have := (w.at e).1
    omega
theorem flat_nats (is : List Nat) : flatN 1 (.lst (is.map natD)) = true := by
  show (is.map natD).all (flatN 0) = true
  rw [List.all_eq_true]
  intro d hd
  obtain ⟨i, _, rfl⟩ := List.mem_map.mp hd
  rfl
end GK
namespace GK
open PySem PySem.Spec PyProof.Rows L2
open N2
theorem lv_get {lv : Lv} {v : Nat} (h : v < lv.length) : (lv.map lvI)[v]? = some (lvI (lv.getD v [])) := by
  rw [List.getElem?_map, List.getElem?_eq_getElem h]
  rw [List.getD_eq_getElem?_getD, List.getElem?_eq_getElem h]; rfl
theorem nT_ins {β : Type} {f : β → D} {l : List (Nat × β)} {k : Nat} {v : β} : nT f (ins l k v) = .dK (putD (l.map (kvN f)) (Sum.inl (k : Int) : Key) (f v)) := congrArg D.dK putD_nat.symm
theorem flat_lay (l : Lay) : flatN 1 (layD l) = true := by
  show (l.map (kvN pvD)).all (fun e => flatN 0 e.2) = true
  rw [List.all_eq_true]
  intro d hd
  obtain ⟨e, _, rfl⟩ := List.mem_map.mp hd
  obtain ⟨k, t, o⟩ := e
  cases o <;> rfl
end GK
namespace GK
open PySem PySem.Spec PyProof.Rows L2
open N2
def layersD (lv : Lv) (n s : Nat) : Nat → List D
  | 0 => [layD (lev lv n s 0).1]
  | k + 1 => layersD lv n s k ++ [layD (lev lv n s (k + 1)).1]
theorem layersD_len {lv : Lv} {n s : Nat} : ∀ k, (layersD lv n s k).length = k + 1
  | 0 => rfl
  | k + 1 => by
    show (layersD lv n s k ++ [_]).length = _
    rw [List.length_append, layersD_len k]; rfl
theorem layersD_get {lv : Lv} {n s : Nat} : ∀ {k j : Nat}, j ≤ k → (layersD lv n s k)[j]? = some (layD (lev lv n s j).1)
  | 0, j, h => by
    have : j = 0 := by omega
    subst this; rfl
  | k + 1, j, h => by
    show (layersD lv n s k ++ [_])[j]? = _
    by_cases q : j ≤ k
    · rw [List.getElem?_append_left (by rw [layersD_len]; omega)]
      exact layersD_get q
    · have : j = k + 1 := by omega
      subst this
      rw [List.getElem?_append_right (by rw [layersD_len]; omega), layersD_len, Nat.sub_self]
      rfl
theorem rep_ints (n : Nat) : List.replicate n (D.int 0) = (List.replicate n (0 : Int)).map D.int := by rw [List.map_replicate]
theorem updB_cons {b : List Int} {e : Nat × Int × Option Nat} {l : Lay} : updB b (e :: l) = updB (b.set e.1 e.2.1) l := rfl
theorem gIxN_nat {ds : List D} {k : Nat} {d : D} {i : Int} {R : D → Prop} (e : i = (k : Int)) (h : ds[k]? = some d) (q : R d) : gIx (.lst ds) (.int i) R := by
  subst e
  exact gIx_nat h q
end GK
namespace GK
open PySem PySem.Spec PyProof.Rows L2
open N2
def insN {α : Type} (l : List α) (j : Nat) (x : α) : List α := l.take j ++ [x] ++ l.drop j
theorem insD_map {α : Type} {f : α → D} {l : List α} {j : Nat} {x : α} : insD (l.map f) j (f x) = (insN l j x).map f := by
  unfold insD insN
  rw [List.map_append, List.map_append, List.map_take, List.map_drop]; rfl
theorem insN_len {α : Type} {l : List α} {j : Nat} {x : α} : (insN l j x).length = l.length + 1 := by
  unfold insN
  rw [List.length_append, List.length_append, List.length_take, List.length_drop, List.length_singleton]
  omega
theorem insN_mem {α : Type} {l : List α} {j : Nat} {x y : α} (h : y ∈ insN l j x) : y = x ∨ y ∈ l := by
  unfold insN at h
  rcases List.mem_append.mp h with z | z
  · rcases List.mem_append.mp z with w | w
    · exact .inr (List.mem_of_mem_take w)
    · exact .inl (List.mem_singleton.mp w)
  · exact .inr (List.mem_of_mem_drop z)
theorem insE {es : List Ed} {j u v : Nat} {c : Int} : insD (edsD es) j (.tup [natD u, natD v, .int c]) = edsD (insN es j (u, v, c)) := insD_map (f := edD) (x := (u, v, c))
theorem prev_get {os : List Nat} {k : Nat} (h : k < os.length) : ∃ t, t ∈ os ∧ atI (os.map natD) ((k : Int) - 1) = some (natD t) := by
  unfold atI
  rw [List.length_map]
  cases k with
  | zero =>
    have e1 : ixN os.length (((0 : Nat) : Int) - 1) = some (os.length - 1) := by
      unfold ixN
      rw [if_neg (by omega), if_pos (by omega)]
      congr 1
      omega
    rw [e1]
    refine ⟨os[os.length - 1], List.getElem_mem _, ?_⟩
    show (os.map natD)[os.length - 1]? = _
    rw [List.getElem?_map, List.getElem?_eq_getElem (by omega)]; rfl
  | succ k =>
    have e1 : ixN os.length (((k + 1 : Nat) : Int) - 1) = some k := by
      rw [show ((k + 1 : Nat) : Int) - 1 = (k : Int) by omega]
      exact ixN_nat (by omega)
    rw [e1]
    refine ⟨os[k], List.getElem_mem _, ?_⟩
    show (os.map natD)[k]? = _
    rw [List.getElem?_map, List.getElem?_eq_getElem (by omega)]; rfl
end GK
namespace GK
open PySem PySem.Spec PyProof.Rows L2
open N2
theorem ok_eds (es : List Ed) : okD 60 (.lst (edsD es)) = true := by
  rw [okD]
  refine okDs_all fun d hd => ?_
  obtain ⟨e, _, rfl⟩ := List.mem_map.mp hd
  rfl
theorem cn_loop {es : List Ed} {v j : Nat} : CN (insN es j (v, v, -1)) 1 := by
  obtain ⟨i, hi⟩ : ∃ i, (insN es j (v, v, -1))[i]? = some (v, v, (-1 : Int)) := List.mem_iff_getElem?.mp (by unfold insN; simp)
  exact ⟨v, [i], rfl, by simp, ⟨v, -1, hi, rfl⟩, by rw [sm_one, cst_at hi]; decide⟩
theorem few_loop {es : List Ed} {v j : Nat} : FewOk (insN es j (v, v, -1)) 1 := .inr ⟨by decide, cn_loop, fun k hk c => by
  obtain ⟨s, is, h1, h2, _⟩ := c
  exact h2 (List.length_eq_zero_iff.mp (by omega))⟩
end GK

namespace GK
open PySem PySem.Spec PyProof.Rows L2
def topS (i : Nat) : Stmt := PySem.Challenge.pw_giftskept_k02_shortest_falling_ring.main.body.getD i (.Pass ⟨0, 0, 0, 0⟩)
structure Bi (mg : Str → Option Value) : Prop where
  bool_ : mg "bool" = none
  enumerate_ : mg "enumerate" = none
  int_ : mg "int" = none
  isinstance_ : mg "isinstance" = none
  len_ : mg "len" = none
  list_ : mg "list" = none
  max_ : mg "max" = none
  range_ : mg "range" = none
  sum_ : mg "sum" = none
  tuple_ : mg "tuple" = none
end GK

namespace GK
open PySem PySem.Spec PyProof.Rows L2
open N2
def w_ring_back : BSpec := fun _ ds R => ∃ es n la ed node j, ds = [ed, .lst (la.map optD), natD node] ∧ isSeq ed (edsD es) ∧ LaOk es n la ∧ node < n ∧ j ≤ n ∧ PP es la (j + 1) node node ∧
  ∀ is, is ≠ [] → Wk es node is node → (∀ i ∈ is, ∃ v, v < n ∧ lf la v = some i) → is.length ≤ n + 1 → R (.lst (is.map natD))
def w_ring_among : BSpec := fun B ds R => ∃ es n la ed, ds = [ed, .lst (la.map optD)] ∧ isSeq ed (edsD es) ∧ LaOk es n la ∧ ((∀ v, v < n → ∃ d, Gr es la d v) → R .non) ∧ ∀ node is, is ≠ [] → Wk es node is node → (∀ i ∈ is, ∃ v, v < n ∧ lf la v = some i) → is.length ≤ n + 1 → R (.lst (is.map natD))
def w_prices_or_ring : BSpec := fun B ds R => ∃ es n ed, ds = [natD n, ed] ∧ isSeq ed (edsD es) ∧ GOk es n ∧ (∀ ps : List Int, ps.length = n → (∀ k, ¬ CN es k) → R (.tup [.lst (ps.map .int), .non])) ∧ ∀ (ps : List Int) node is, ps.length = n → is ≠ [] → Wk es node is node → sm es is < 0 → is.length ≤ n + 1 → R (.tup [.lst (ps.map .int), .lst (is.map natD)])
def w_edges_leaving : BSpec := fun B ds R => ∃ es n ed ps, ds = [natD n, ed, .lst (ps.map .int)] ∧ isSeq ed (edsD es) ∧ GOk es n ∧ ps.length = n ∧ ∀ lv, LvOk (red (pf ps) es) n lv → R (lvD lv)
def w_next_layer : BSpec := fun B ds R => ∃ gs n lv l b, ds = [lvD lv, layD l, .lst (b.map .int)] ∧ Wf gs n ∧ n ≤ 100 ∧ LvOk gs n lv ∧ StepOk n b l ∧ b.length = n ∧ R (layD (nextL lv b l))
def w_closed_walk : BSpec := fun B ds R => ∃ es p n ed lv s size, ds = [ed, lvD lv, natD s, natD size] ∧ isSeq ed (edsD es) ∧ GOk es n ∧ LvOk (red p es) n lv ∧ s < n ∧ 1 ≤ size ∧ size ≤ 200 ∧ s ∈ (lev lv n s size).1.map (·.1) ∧ ∀ is, is.length = size → is ≠ [] → Wk es s is s → sm es is < 0 → R (.lst (is.map natD))
def w_short_ring : BSpec := fun B ds R => ∃ es n ed, ds = [natD n, ed] ∧ isSeq ed (edsD es) ∧ GOk es n ∧ ((∀ k, ¬ CN es k) → R .non) ∧ ∀ s is, Least es s is → R (.lst (is.map natD))
def w_law_ends : BSpec := fun B ds R => ∃ (b : Addr) (count many : Nat), B.head? = some b ∧ ds = [.raw (.ref b), natD count, natD many] ∧ count ≤ 100 ∧ many ≤ 100 ∧ ∀ en : List (Nat × Nat), en.length ≤ many → (∀ e ∈ en, e.1 < count ∧ e.2 < count) → R (.lst (en.map prD))
def w_law_small : BSpec := fun B ds R => ∃ (b : Addr) (count many : Nat), B.head? = some b ∧ ds = [.raw (.ref b), natD count, natD many] ∧ count ≤ 100 ∧ many ≤ 100 ∧ ∀ es : List Ed, es.length ≤ many → Wf es count → R (.lst (edsD es))
def w_law_round : BSpec := fun B ds R => ∃ (b : Addr) (count many : Nat), B.head? = some b ∧ ds = [.raw (.ref b), natD count, natD many] ∧ 1 ≤ count ∧ count ≤ 100 ∧ many ≤ 100 ∧ ∀ es st, GrOk count es st → es.length ≤ count + many → R (graphD count es st)
def w_law_graph : BSpec := fun B ds R => ∃ (b : Addr), B.head? = some b ∧ ds = [.raw (.ref b)] ∧ ∀ n es st, GrOk n es st → es.length ≤ 150 → R (graphD n es st)
def w_law_integers : BSpec := fun B ds R => ∃ is : List Nat, ds = [.lst (is.map natD)] ∧ is.length ≤ 200 ∧ R (.bl true)
def w_law_ring : BSpec := fun B ds R => ∃ es is n s, ds = [.lst (edsD es), .lst (is.map natD)] ∧ GOk es n ∧ Least es s is ∧ R (.bl true)
def w_law_row : BSpec := fun B ds R => ∃ es r n, ds = [.lst (edsD es), rowD r] ∧ GOk es n ∧ R (rowD (lrow es r))
def w_law_fewest : BSpec := fun B ds R => ∃ n es st, ds = [natD n, .lst (edsD es), .lst (st.map natD)] ∧ GrOk n es st ∧ ∀ f, FewOk es f → R (natD f)
def w_law_right : BSpec := fun B ds R => ∃ es n f told, ds = [.lst (edsD es), told, natD f] ∧ GOk es n ∧ FewOk es f ∧ ((told = .non ∧ ∀ k, ¬ CN es k) ∨ ∃ s is, told = .lst (is.map natD) ∧ Least es s is) ∧ R (.bl true)
def w_law_asked : BSpec := fun B ds R => ∃ (b : Addr) (n : Nat) (es : List Ed) (st : List Nat) (t : Nat), B.head? = some b ∧ ds = [.raw (.ref b), graphD n es st, natD t] ∧ GrOk n es st ∧ t ≤ 2 ∧ es.length ≤ 150 ∧ R (.bl true)
def w_law_looped : BSpec := fun B ds R => ∃ (b : Addr) (n : Nat) (es : List Ed) (st : List Nat), B.head? = some b ∧ ds = [.raw (.ref b), graphD n es st] ∧ GrOk n es st ∧ es.length ≤ 150 ∧ R (.bl true)
end GK

namespace GK
open PySem PySem.Spec PyProof.Rows L2
abbrev sDraw : Stmt := topS 10
section
variable {P : Program} {w : World} {K : PySem.W.Frag} {mg : Str → Option Value} {base : Heap}
theorem scDraw : FnScope ["bag", "size", "turn", "at", "cell", "left", "number", "mixed"] ["bag", "size"] (defScope sDraw) := ⟨rfl, rfl, rfl, by decide +kernel, rfl, by decide +kernel, by decide +kernel⟩
theorem ok_draw {f : Addr} {fd : FuncData} (F : Fun K "_law_draw" "_law_draw" sDraw f fd) (mi : mg "int" = none) (ml : mg "len" = none) : FnOk P w K mg base CX0 1 f fd ["bag", "size"] (spD K m wDraw) := by
  refine F.ok scDraw (fun vs H Q E ⟨B, F, ds, R, w, r, ⟨b, size, hb, e, _⟩, k⟩ => by rw [r.length, e]; rfl) fun cdv A outer s H vs Q E hr ⟨B, F, ds, R, w, r, ⟨b, size, hb, e, h0, hz, hR⟩, k⟩ => ?_
  subst e
  obtain ⟨v0, v1, rfl, r0, r1⟩ : ∃ v0 v1, vs = [v0, v1] ∧ GK.R K F v0 (.raw (.ref b)) ∧ GK.R K F v1 (.int size) := by
    cases r with
    | cons h t =>
      cases t with
      | cons h' t' => cases t'; exact ⟨_, _, rfl, h, h'⟩
  cases r0
  cases r1
  rcases w.bag with e | ⟨b', c, l, ts, cells, left, turn, eB, ht, h1, h2, h3, n1, n2, n3, t0, l0, l63, le⟩
  · rw [e] at hb; cases hb
  rw [eB] at hb
  cases hb
  refine ⟨_, pss_cons (ps_set (i := 2) scDraw.nd rfl (Or.inl rfl) (pe_ix ix_seq (pv 0) pe_int fun _ _ => rfl))
    (pss_cons (ps_asg (pe_op op_add (pv 2) pe_int) (pg_sub (pv 0) pe_int set_list fun _ => rfl))
    (pss_cons (ps_set (i := 3) scDraw.nd rfl (Or.inl rfl) (pe_op op_mod (pe_callTy call_int1 rfl mi (by decide +kernel) (pa_cons (pv 2) pa_nil)) (pe_callB call_len_seq rfl ml PySem.boot_len (pa_cons (pe_ix ix_seq (pv 0) pe_int fun _ _ => rfl) pa_nil))))
    (pss_cons (ps_set (i := 4) scDraw.nd rfl (Or.inl rfl) (pe_ix ix_seq (pe_ix ix_seq (pv 0) pe_int fun _ _ => rfl) (pv 3) fun _ _ => rfl))
    (pss_cons (ps_set (i := 5) scDraw.nd rfl (Or.inl rfl) (pe_ix ix_seq (pv 0) pe_int fun _ _ => rfl))
    (pss_cons (ps_if (pw_and (pt_cmpR op_ge (pv 4) pe_int (nomark _)) (pw_and1 (pt_cmpR op_gt (pe_ix ix_seq (pv 5) (pv 3) fun _ _ => rfl) pe_int (nomark _)))).pt
      (pss_cons (ps_set (i := 6) scDraw.nd rfl (Or.inl rfl) (pe_op op_mod (pe_callTy call_int1 rfl mi (by decide +kernel) (pa_cons (pe_ix ix_seq (pv 5) (pv 3) fun _ _ => rfl) pa_nil)) (pv 1)))
      (pss_cons (ps_asg (pe_op op_fdivW (pe_ix ix_seq (pv 5) (pv 3) fun _ _ => rfl) (pv 1)) (pg_sub (pv 5) (pv 3) set_list fun _ => rfl))
      (pss_one (ps_ret (pv 6))))) pss_nil)
    (pss_cons (ps_set (i := 7) scDraw.nd rfl (Or.inl rfl) (pe_op op_mod (pe_callTy call_int1 rfl mi (by decide +kernel) (pa_cons (pe_op op_add (pe_op op_add (pv 4) (pe_op op_mul pe_int (pv 2))) pe_int) pa_nil)) pe_int))
    (pss_cons (ps_set (i := 7) scDraw.nd rfl (Or.inl rfl) (pe_op op_mod (pe_callTy call_int1 rfl mi (by decide +kernel) (pa_cons (pe_op op_mul (pv 7) (pe_op op_add (pv 7) pe_int)) pa_nil)) pe_int))
    (pss_cons (ps_set (i := 7) scDraw.nd rfl (Or.inl rfl) (pe_op op_mod (pe_callTy call_int1 rfl mi (by decide +kernel) (pa_cons (pe_op op_add (pe_op op_mul (pv 7) (pe_op op_add (pv 7) pe_int)) (pe_op op_mul pe_int (pv 2))) pa_nil)) pe_int))
    (pss_one (ps_ret (pe_op op_mod (pe_callTy call_int1 rfl mi (by decide +kernel) (pa_cons (pe_op op_fdiv (pv 7) pe_int) pa_nil)) (pv 1)))))))))))), ?_⟩
  -- the turn
  refine ⟨_, rfl, .inl ⟨b, _, 2, .int turn, rfl, rfl, SqL.of h1, rfl, ?_⟩⟩
  refine ⟨_, rfl, _, _, rfl, rfl, ?_⟩
  refine ⟨_, rfl, b, _, 2, 2, rfl, rfl, h1, rfl, ?_⟩
  have h1' : upd H b (.lst [.ref c, .ref l, .int (turn + 1)]) b = some (.lst [.ref c, .ref l, .int (turn + 1)]) := upd_same
  have h2' : upd H b (.lst [.ref c, .ref l, .int (turn + 1)]) c = some (.lst (cells.map V.int)) := by rw [upd_ne n1.symm]; exact h2
  have h3' : upd H b (.lst [.ref c, .ref l, .int (turn + 1)]) l = some (.lst (left.map V.int)) := by rw [upd_ne n2.symm]; exact h3
  have hlen : ((cells.map V.int).length : Int) = cells.length := by rw [List.length_map]
  have a0 : 0 ≤ turn % (cells.length : Int) := Int.emod_nonneg _ (by omega)
  have a1 : turn % (cells.length : Int) < cells.length := Int.emod_lt_of_pos _ (by omega)
  obtain ⟨cell, hc⟩ := atI_ints (ns := cells) a0 a1
  obtain ⟨lf, hl⟩ := atI_ints (ns := left) a0 (by rw [le]; exact a1)
  have last : ∀ (H' : Hp) (left' : List Int) (x : Int), (∀ a, a ≠ b → a ≠ l → H' a = H a) → H' b = some (.lst [.ref c, .ref l, .int (turn + 1)]) → H' l = some (.lst (left'.map V.int)) → left'.length = cells.length → Q (.int (x % size)) H' := fun H' left' x q1 q2 q3 q4 =>
    k F H' (.int (x % size)) (.int (x % size)) [] (bag_upd w eB ht h1 h2 h3 n1 n2 n3 l0 l63 q1 q2 (by omega) q3 q4) (Val.atom rfl fun _ => .int _) (fun a h => (by cases h)) List.nodup_nil (hR _ (Int.emod_nonneg _ (by omega)) (Int.emod_lt_of_pos _ h0))
  rw [← hlen] at a0 hc hl
  refine ⟨_, rfl, .inl ⟨_, rfl, _, rfl, .inl ⟨b, _, 0, .ref c, rfl, rfl, SqL.of h1', rfl, c, _, rfl, .inl (SqL.of h2'), _, _, rfl, rfl, (by rw [hlen]; omega), ?_⟩⟩⟩
  refine ⟨_, rfl, .inl ⟨b, _, 0, .ref c, rfl, rfl, SqL.of h1', rfl, _, rfl, .inl ⟨c, _, _, _, rfl, rfl, SqL.of h2', hc, ?_⟩⟩⟩
  refine ⟨_, rfl, .inl ⟨b, _, 1, .ref l, rfl, rfl, SqL.of h1', rfl, ?_⟩⟩
  refine ⟨_, rfl, _, _, rfl, rfl, _, rfl, ?_⟩
  dsimp only
  by_cases hcell : (1000000000000000000 : Int) ≤ cell
  · rw [if_pos (decide_eq_true hcell)]
    refine ⟨_, rfl, _, rfl, .inl ⟨l, _, _, _, rfl, rfl, SqL.of h3', hl, _, _, rfl, rfl, _, rfl, ?_⟩⟩
    dsimp only
    by_cases hlf : (0 : Int) < lf
    · rw [if_pos (decide_eq_true hlf)]
      obtain ⟨_, kx, _, hix, hkl⟩ := atI_at hl a0
      refine ⟨_, rfl, _, rfl, .inl ⟨l, _, _, _, rfl, rfl, SqL.of h3', hl, .inl ⟨_, rfl, _, rfl, _, _, rfl, rfl, h0, ?_⟩⟩⟩
      refine ⟨_, rfl, _, rfl, .inl ⟨l, _, _, _, rfl, rfl, SqL.of h3', hl, _, rfl, _, _, rfl, rfl, ⟨h0, hz⟩, _, rfl, _, rfl, l, _, _, kx, rfl, rfl, h3', hix, ?_⟩⟩
      refine ⟨_, rfl, last _ (left.set kx (lf / size)) _ (fun a q1 q2 => by rw [upd_ne q2, upd_ne q1]) (by rw [upd_ne n2]; exact h1') (by rw [upd_same, List.map_set]) (by rw [List.length_set]; exact le)⟩
    · rw [if_neg (by rw [decide_eq_false hlf]; exact Bool.false_ne_true)]
      refine ⟨_, rfl, _, rfl, _, _, rfl, rfl, .inl ⟨by decide, by decide⟩, _, _, rfl, rfl, _, _, rfl, rfl, .inl ⟨_, rfl, _, _, rfl, rfl, (by dsimp only; decide), ?_⟩⟩
      have small : ∀ x : Int, -(2 ^ 64) < x % 2147483647 ∧ x % 2147483647 < 2 ^ 64 := fun x => by have := Int.emod_nonneg x (b := 2147483647) (by decide); have := Int.emod_lt_of_pos x (b := 2147483647) (by decide); omega
      have small' : ∀ x : Int, -(2 ^ 64) < x % 2147483629 ∧ x % 2147483629 < 2 ^ 64 := fun x => by have := Int.emod_nonneg x (b := 2147483629) (by decide); have := Int.emod_lt_of_pos x (b := 2147483629) (by decide); omega
      refine ⟨_, rfl, _, rfl, _, _, rfl, rfl, _, _, rfl, rfl, .inl (small _), .inl ⟨_, rfl, _, _, rfl, rfl, (by dsimp only; decide), ?_⟩⟩
      refine ⟨_, rfl, _, rfl, _, _, rfl, rfl, _, _, rfl, rfl, .inl (small' _), _, rfl, _, _, rfl, rfl, .inl ⟨by decide, by decide⟩, _, _, rfl, rfl, .inl ⟨_, rfl, _, _, rfl, rfl, (by dsimp only; decide), ?_⟩⟩
      refine ⟨_, rfl, _, _, rfl, rfl, ⟨by decide, by decide⟩, .inl ⟨_, rfl, _, rfl, _, _, rfl, rfl, h0, ?_⟩⟩
      exact last _ left _ (fun a q1 _ => upd_ne q1) h1' h3' le
  · rw [if_neg (by rw [decide_eq_false hcell]; exact Bool.false_ne_true)]
    rw [if_neg Bool.false_ne_true]
    refine ⟨_, rfl, _, rfl, _, _, rfl, rfl, .inl ⟨by decide, by decide⟩, _, _, rfl, rfl, _, _, rfl, rfl, .inl ⟨_, rfl, _, _, rfl, rfl, (by dsimp only; decide), ?_⟩⟩
    have small : ∀ x : Int, -(2 ^ 64) < x % 2147483647 ∧ x % 2147483647 < 2 ^ 64 := fun x => by have := Int.emod_nonneg x (b := 2147483647) (by decide); have := Int.emod_lt_of_pos x (b := 2147483647) (by decide); omega
    have small' : ∀ x : Int, -(2 ^ 64) < x % 2147483629 ∧ x % 2147483629 < 2 ^ 64 := fun x => by have := Int.emod_nonneg x (b := 2147483629) (by decide); have := Int.emod_lt_of_pos x (b := 2147483629) (by decide); omega
    refine ⟨_, rfl, _, rfl, _, _, rfl, rfl, _, _, rfl, rfl, .inl (small _), .inl ⟨_, rfl, _, _, rfl, rfl, (by dsimp only; decide), ?_⟩⟩
    refine ⟨_, rfl, _, rfl, _, _, rfl, rfl, _, _, rfl, rfl, .inl (small' _), _, rfl, _, _, rfl, rfl, .inl ⟨by decide, by decide⟩, _, _, rfl, rfl, .inl ⟨_, rfl, _, _, rfl, rfl, (by dsimp only; decide), ?_⟩⟩
    refine ⟨_, rfl, _, _, rfl, rfl, ⟨by decide, by decide⟩, .inl ⟨_, rfl, _, rfl, _, _, rfl, rfl, h0, ?_⟩⟩
    exact last _ left _ (fun a q1 _ => upd_ne q1) h1' h3' le
end
end GK

namespace GK
open PySem PySem.Spec PyProof.Rows L2
abbrev sBag : Stmt := topS 9
section
variable {P : Program} {w : World} {K : PySem.W.Frag} {mg : Str → Option Value} {base : Heap}
theorem scBag : FnScope ["script", "cells", "cell"] ["script"] (defScope sBag) := ⟨rfl, rfl, rfl, by decide +kernel, rfl, by decide +kernel, by decide +kernel⟩
theorem ok_bag {f : Addr} {fd : FuncData} (F : Fun K "_law_bag" "_law_bag" sBag f fd) (mi : mg "int" = none) (ml : mg "len" = none) (mL : mg "list" = none) : FnOk P w K mg base CX0 1 f fd ["script"] (spBag K) := by
  refine F.ok scBag (fun vs H Q E ⟨a, ns, e, _⟩ => by rw [e]; rfl) fun cdv A outer s H vs Q E hr ⟨a, ns, e, hs, hlen, k⟩ => ?_
  subst e
  refine ⟨_, pss_cons (ps_setLc (i := 1) (own := [("cell", 2)]) rfl scBag.nd rfl rfl (sw_true rfl rfl rfl rfl) (pi_list (pe_slice sl_list (pv 0) po_none (po_some pe_int))) (blk_of ["script", "cells", "cell"] (defScope sBag) rfl (by decide +kernel) (by decide +kernel) (by decide +kernel) (by decide +kernel))
      (fun _ _ _ _ _ => pg_name (i := 2) scBag.nd rfl (Or.inl rfl) (Or.inr rfl)) (fun _ _ _ _ _ => pts_nil) (fun _ _ _ _ _ => pe_callTy call_int1 rfl mi (by decide +kernel) (pa_cons (pv 2) pa_nil)))
    (pss_cons (ps_if (pt_cmpR op_eq (pe_callB call_len_seq rfl ml PySem.boot_len (pa_cons (pv 1) pa_nil)) pe_int (nomark _)) (pss_one (ps_set (i := 1) scBag.nd rfl (Or.inl rfl) (pe_lst (pa_cons pe_int pa_nil)))) pss_nil)
    (pss_one (ps_ret (pe_lst (pa_cons (pv 1) (pa_cons (pe_callTy call_list_of rfl mL (by decide +kernel) (pa_cons (pv 1) pa_nil)) (pa_cons pe_int pa_nil))))))), ?_⟩
  refine ⟨_, rfl, 63, rfl, a, _, rfl, hs, fun p hp => ?_⟩
  obtain ⟨ms, em, lm⟩ := cut_ints ns Option.none (some 63)
  rw [em]
  have e0 : Ext H (upd H p (.lst (ms.map V.int))) := Ext.refl.put hp
  refine ⟨p, rfl, ⟨_, SqL.of upd_same⟩, fun Dc hD => ?_⟩
  have hpD : p ≠ Dc := fun z => by rw [← z, upd_same] at hD; cases hD
  have hD0 : H Dc = Option.none := e0.none hD
  refine lc_list (fun i H' => ∃ acc : List Int, acc.length = i ∧ H' = upd (upd H p (.lst (ms.map V.int))) Dc (.lst (acc.map V.int))) ⟨[], rfl, rfl⟩ (fun i H' _ ⟨acc, _, eH⟩ => SqL.of (by rw [eH, upd_ne hpD]; exact upd_same)) ?_ ?_
  · rintro i x H' hx ⟨acc, la, rfl⟩
    have hi : i < ms.length := by
      have := (List.getElem?_eq_some_iff.mp hx).1
      rw [List.length_map] at this; exact this
    obtain ⟨m, rfl⟩ : ∃ m, x = V.int m := by
      rw [List.getElem?_map, List.getElem?_eq_getElem hi] at hx
      exact ⟨_, (Option.some.inj hx).symm⟩
    have hsz : acc.length < sizeLine := by rw [la]; exact Nat.lt_of_lt_of_le hi (by have : sizeLine = 16777216 := by decide
                                                                                    omega)
    refine ⟨rfl, ?_⟩
    unfold tYes
    dsimp only
    rw [if_pos rfl]
    refine ⟨_, rfl, .inl ⟨m, rfl, _, upd_same, by rw [List.length_map]; exact hsz, acc ++ [m], by rw [List.length_append, la]; rfl, ?_⟩⟩
    rw [upd_upd, List.map_append]; rfl
  · rintro H' ⟨acc, la, rfl⟩
    rw [List.length_map] at la
    have e1 : Ext H (upd (upd H p (.lst (ms.map V.int))) Dc (.lst (acc.map V.int))) := e0.put hD0
    have a63 : acc.length ≤ 63 := by omega
    -- the end, from the cells at q
    have fin : ∀ (H1 : Hp) (q : Addr) (cells : List Int), Ext H H1 → H q = Option.none → H1 q = some (.lst (cells.map V.int)) → 0 < cells.length → cells.length ≤ 63 → ∀ l b, H1 l = Option.none → upd H1 l (.lst (cells.map V.int)) b = Option.none → Q (.ref b) (upd (upd H1 l (.lst (cells.map V.int))) b (.lst [.ref q, .ref l, .int 0])) := fun H1 q cells ex hq h1 c0 c63 l b hl hb => by
      have hlq : q ≠ l := fun z => by rw [z, hl] at h1; cases h1
      have hbl : b ≠ l := fun z => by rw [z, upd_same] at hb; cases hb
      have hb1 : H1 b = Option.none := by rw [upd_ne hbl] at hb; exact hb
      have hbq : b ≠ q := fun z => by rw [z, h1] at hb1; cases hb1
      have ee := (ex.put (xs := cells.map V.int) (ex.none hl)).put (xs := [.ref q, .ref l, .int 0]) (ex.none hb1)
      exact k b q l cells cells _ (ex.none hb1) hbq hbl hlq c0 c63 rfl ee.1 ee.2 upd_same (by rw [upd_ne hbq.symm, upd_ne hlq]; exact h1) (by rw [upd_ne hbl.symm]; exact upd_same)
    refine ⟨_, rfl, Dc, _, rfl, .inl (SqL.of upd_same), ?_⟩
    refine ⟨rfl, _, rfl, ?_⟩
    dsimp only
    by_cases h0 : acc.length = 0
    · rw [if_pos (decide_eq_true (by rw [List.length_map, h0]; rfl))]
      refine ⟨by show 1 ≤ sizeLine; decide, fun q hq => ?_⟩
      have ex2 := e1.put (xs := [V.int 0]) (e1.none hq)
      refine ⟨_, rfl, _, rfl, q, _, rfl, .inl (SqL.of upd_same), fun l hl => ⟨by show 3 ≤ sizeLine; decide, fun b hb => ?_⟩⟩
      exact fin _ q [0] ex2 (e1.none hq) upd_same (by decide) (by decide) l b hl hb
    · rw [if_neg (by
        rw [decide_eq_false]
        · exact Bool.false_ne_true
        · intro z
          have := V.int.inj z
          rw [List.length_map] at this
          omega)]
      refine ⟨_, rfl, _, rfl, Dc, _, rfl, .inl (SqL.of upd_same), fun l hl => ⟨by show 3 ≤ sizeLine; decide, fun b hb => ?_⟩⟩
      exact fin _ Dc acc e1 hD0 upd_same (by omega) a63 l b hl hb
end
end GK

namespace GK
open PySem PySem.Spec PyProof.Rows L2
open N2
section
variable {P : Program} {w : World} {K : PySem.W.Frag} {mg : Str → Option Value} {base : Heap}
abbrev s_ring_back : Stmt := topS 1
theorem sc_ring_back : FnScope ["edges", "last", "node", "ring"] ["edges", "last", "node"] (defScope s_ring_back) := ⟨rfl, rfl, rfl, by decide +kernel, rfl, by decide +kernel, by decide +kernel⟩
theorem ok_ring_back {f : Addr} {fd : FuncData} (F : Fun K "ring_back" "ring_back" s_ring_back f fd) (T : Bi mg)  : FnOk P w K mg base CX0 1 f fd ["edges", "last", "node"] (spD K (.own 1) w_ring_back) := by
  refine Fun_okD F sc_ring_back (fun _ _ _ h => by obtain ⟨_, _, _, _, _, _, e, _, _, _, _, _, _⟩ := h; rw [e]; rfl) fun B cdv A outer s H E hr => ⟨_, (ds_cons (ds_setM 3 1 sc_ring_back.nd rfl (by first | exact Or.inl rfl | exact Or.inr rfl) (by decide) (dm_of (de_lst 0 (da_cons (m := .own 0) (de_at (de_v 1) (de_v 2)) da_nil))))
(ds_cons (ds_while PassesOwn.never (dt_ne (de_at (de_at (de_v 0) (de_at (de_var 3 1) (de_neg (m := .rd) (de_int (m := .rd))))) (de_int (m := .rd))) (de_v 2))
(ds_one (ds_exprM (m := .own 0) (dm_append 3 0 (dm_of (de_at (de_v 1) (de_at (de_at (de_v 0) (de_at (de_var 3 1) (de_neg (m := .rd) (de_int (m := .rd))))) (de_int (m := .rd)))))))))
(ds_one (ds_frz 3 (ds_retM (dm_of (de_revL (de_v 3)))))))), fun ds R ⟨es, n, la, ed, node, j, e, hs, ok, hn, hj, hp, hR⟩ => ?_⟩
  subst e
  try simp only [ownLst, ownObj, mTake, mOf, fAndV, fOrV, fArgs, fCons, fNil, fVar_0, fVar_s, fUn, fBin, fBool, startE, envOf, slot, gSeq, frzE, gComp, gCompD, wipe_nil, wipe_cons, List.map_cons, List.map_nil, List.cons_append, List.nil_append, List.append_nil, true_and, and_true, List.set_cons_zero, List.set_cons_succ, List.length_cons, List.length_nil, List.replicate_succ, List.replicate_zero, Nat.reduceSub, Nat.reduceAdd, Nat.reduceLT, DEnds.fn, bOf_bl, eq_self, reduceIte, Bool.false_eq_true, gNotV_bl, Bool.not_true, Bool.not_false, g2I_int, g2I0_int, g1I_int, gLen_lst, gLen_tup, gInt_int, gMax2_int, gMin2_int, gIsN_non, gIsN_obj, gIsN_dT, gIsN_dK, gIsN_int, xsOf_lst, tsOf_tup, gIx_t0, gIx_t1, gIx_l0, gIx_l1, gIx_l2, gEqA_int, gEqA_str, gEqA_bl, gTup, gLst, Option.isSome_some, Bool.false_xor, Bool.true_xor, gFor, gNegI, gEqA_no, gIsN_lst, gIsN_tup, gIx_t2, Bool.not_not, dnE, dnL, decide_true, decide_false, gListL_lst, gTupL_lst, gListU_lst, gListU_tup, iOf_int, graphD, edD, optD, pvD, lvD, lvI, trD, Bool.xor_false, Bool.not_false, Bool.not_true]
  obtain ⟨i0, u0, c0, el, ee, hp⟩ := hp
  refine gIx_nat (la_get (by rw [ok.ll]; exact hn)) ?_
  rw [el]
  try simp only [ownLst, ownObj, mTake, mOf, fAndV, fOrV, fArgs, fCons, fNil, fVar_0, fVar_s, fUn, fBin, fBool, startE, envOf, slot, gSeq, frzE, gComp, gCompD, wipe_nil, wipe_cons, List.map_cons, List.map_nil, List.cons_append, List.nil_append, List.append_nil, true_and, and_true, List.set_cons_zero, List.set_cons_succ, List.length_cons, List.length_nil, List.replicate_succ, List.replicate_zero, Nat.reduceSub, Nat.reduceAdd, Nat.reduceLT, DEnds.fn, bOf_bl, eq_self, reduceIte, Bool.false_eq_true, gNotV_bl, Bool.not_true, Bool.not_false, g2I_int, g2I0_int, g1I_int, gLen_lst, gLen_tup, gInt_int, gMax2_int, gMin2_int, gIsN_non, gIsN_obj, gIsN_dT, gIsN_dK, gIsN_int, xsOf_lst, tsOf_tup, gIx_t0, gIx_t1, gIx_l0, gIx_l1, gIx_l2, gEqA_int, gEqA_str, gEqA_bl, gTup, gLst, Option.isSome_some, Bool.false_xor, Bool.true_xor, gFor, gNegI, gEqA_no, gIsN_lst, gIsN_tup, gIx_t2, Bool.not_not, dnE, dnL, decide_true, decide_false, gListL_lst, gTupL_lst, gListU_lst, gListU_tup, iOf_int, graphD, edD, optD, pvD, lvD, lvI, trD, Bool.xor_false, Bool.not_false, Bool.not_true]
  refine ⟨by decide, ?_⟩
  refine ⟨fun m ρ => ∃ (r : List Nat) (i x : Nat) (c : Nat × Int), m ≤ j ∧ r.length + m = j ∧ (∀ y ∈ r ++ [i], ∃ v, v < n ∧ lf la v = some y) ∧ es[i]? = some (x, c) ∧ Wk es c.1 r.reverse node ∧ PP es la m x node ∧ ρ = [some (0, ed), some (0, .lst (la.map optD)), some (0, natD node), some (1, .lst (r.map natD ++ [natD i]))], ⟨j, [], i0, u0, (node, c0), Nat.le_refl _, by simp, fun y hi => ?_, ee, (show node = node from rfl), hp, rfl⟩, ?_⟩
  · rw [List.mem_singleton.mp hi]
    exact ⟨node, hn, el⟩
  · rintro m ρ ⟨r, i, x, c, h1, h2, h3, h4, h5, h6, rfl⟩
    try simp only [ownLst, ownObj, mTake, mOf, fAndV, fOrV, fArgs, fCons, fNil, fVar_0, fVar_s, fUn, fBin, fBool, startE, envOf, slot, gSeq, frzE, gComp, gCompD, wipe_nil, wipe_cons, List.map_cons, List.map_nil, List.cons_append, List.nil_append, List.append_nil, true_and, and_true, List.set_cons_zero, List.set_cons_succ, List.length_cons, List.length_nil, List.replicate_succ, List.replicate_zero, Nat.reduceSub, Nat.reduceAdd, Nat.reduceLT, DEnds.fn, bOf_bl, eq_self, reduceIte, Bool.false_eq_true, gNotV_bl, Bool.not_true, Bool.not_false, g2I_int, g2I0_int, g1I_int, gLen_lst, gLen_tup, gInt_int, gMax2_int, gMin2_int, gIsN_non, gIsN_obj, gIsN_dT, gIsN_dK, gIsN_int, xsOf_lst, tsOf_tup, gIx_t0, gIx_t1, gIx_l0, gIx_l1, gIx_l2, gEqA_int, gEqA_str, gEqA_bl, gTup, gLst, Option.isSome_some, Bool.false_xor, Bool.true_xor, gFor, gNegI, gEqA_no, gIsN_lst, gIsN_tup, gIx_t2, Bool.not_not, dnE, dnL, decide_true, decide_false, gListL_lst, gTupL_lst, gListU_lst, gListU_tup, iOf_int, graphD, edD, optD, pvD, lvD, lvI, trD, Bool.xor_false, Bool.not_false, Bool.not_true]
    refine gIx_last ?_
    refine gIx_seq hs (edsD_get h4) ?_
    try simp only [ownLst, ownObj, mTake, mOf, fAndV, fOrV, fArgs, fCons, fNil, fVar_0, fVar_s, fUn, fBin, fBool, startE, envOf, slot, gSeq, frzE, gComp, gCompD, wipe_nil, wipe_cons, List.map_cons, List.map_nil, List.cons_append, List.nil_append, List.append_nil, true_and, and_true, List.set_cons_zero, List.set_cons_succ, List.length_cons, List.length_nil, List.replicate_succ, List.replicate_zero, Nat.reduceSub, Nat.reduceAdd, Nat.reduceLT, DEnds.fn, bOf_bl, eq_self, reduceIte, Bool.false_eq_true, gNotV_bl, Bool.not_true, Bool.not_false, g2I_int, g2I0_int, g1I_int, gLen_lst, gLen_tup, gInt_int, gMax2_int, gMin2_int, gIsN_non, gIsN_obj, gIsN_dT, gIsN_dK, gIsN_int, xsOf_lst, tsOf_tup, gIx_t0, gIx_t1, gIx_l0, gIx_l1, gIx_l2, gEqA_int, gEqA_str, gEqA_bl, gTup, gLst, Option.isSome_some, Bool.false_xor, Bool.true_xor, gFor, gNegI, gEqA_no, gIsN_lst, gIsN_tup, gIx_t2, Bool.not_not, dnE, dnL, decide_true, decide_false, gListL_lst, gTupL_lst, gListU_lst, gListU_tup, iOf_int, graphD, edD, optD, pvD, lvD, lvI, trD, Bool.xor_false, Bool.not_false, Bool.not_true]
    by_cases hx : x = node
    · rw [decide_eq_true hx]
      try simp only [ownLst, ownObj, mTake, mOf, fAndV, fOrV, fArgs, fCons, fNil, fVar_0, fVar_s, fUn, fBin, fBool, startE, envOf, slot, gSeq, frzE, gComp, gCompD, wipe_nil, wipe_cons, List.map_cons, List.map_nil, List.cons_append, List.nil_append, List.append_nil, true_and, and_true, List.set_cons_zero, List.set_cons_succ, List.length_cons, List.length_nil, List.replicate_succ, List.replicate_zero, Nat.reduceSub, Nat.reduceAdd, Nat.reduceLT, DEnds.fn, bOf_bl, eq_self, reduceIte, Bool.false_eq_true, gNotV_bl, Bool.not_true, Bool.not_false, g2I_int, g2I0_int, g1I_int, gLen_lst, gLen_tup, gInt_int, gMax2_int, gMin2_int, gIsN_non, gIsN_obj, gIsN_dT, gIsN_dK, gIsN_int, xsOf_lst, tsOf_tup, gIx_t0, gIx_t1, gIx_l0, gIx_l1, gIx_l2, gEqA_int, gEqA_str, gEqA_bl, gTup, gLst, Option.isSome_some, Bool.false_xor, Bool.true_xor, gFor, gNegI, gEqA_no, gIsN_lst, gIsN_tup, gIx_t2, Bool.not_not, dnE, dnL, decide_true, decide_false, gListL_lst, gTupL_lst, gListU_lst, gListU_tup, iOf_int, graphD, edD, optD, pvD, lvD, lvI, trD, Bool.xor_false, Bool.not_false, Bool.not_true]
      have hw : Wk es node (i :: r.reverse) node := ⟨c.1, c.2, by rw [h4, ← hx], h5⟩
      have := hR (i :: r.reverse) (by simp) hw (fun y hy => h3 y (by
        rcases List.mem_cons.mp hy with z | z
        · simp [z]
        · simp [List.mem_reverse.mp z])) (by rw [List.length_cons, List.length_reverse]; omega)
      rw [List.map_cons, List.map_reverse] at this
      rw [List.reverse_append]
      exact this
    · rw [decide_eq_false hx]
      try simp only [ownLst, ownObj, mTake, mOf, fAndV, fOrV, fArgs, fCons, fNil, fVar_0, fVar_s, fUn, fBin, fBool, startE, envOf, slot, gSeq, frzE, gComp, gCompD, wipe_nil, wipe_cons, List.map_cons, List.map_nil, List.cons_append, List.nil_append, List.append_nil, true_and, and_true, List.set_cons_zero, List.set_cons_succ, List.length_cons, List.length_nil, List.replicate_succ, List.replicate_zero, Nat.reduceSub, Nat.reduceAdd, Nat.reduceLT, DEnds.fn, bOf_bl, eq_self, reduceIte, Bool.false_eq_true, gNotV_bl, Bool.not_true, Bool.not_false, g2I_int, g2I0_int, g1I_int, gLen_lst, gLen_tup, gInt_int, gMax2_int, gMin2_int, gIsN_non, gIsN_obj, gIsN_dT, gIsN_dK, gIsN_int, xsOf_lst, tsOf_tup, gIx_t0, gIx_t1, gIx_l0, gIx_l1, gIx_l2, gEqA_int, gEqA_str, gEqA_bl, gTup, gLst, Option.isSome_some, Bool.false_xor, Bool.true_xor, gFor, gNegI, gEqA_no, gIsN_lst, gIsN_tup, gIx_t2, Bool.not_not, dnE, dnL, decide_true, decide_false, gListL_lst, gTupL_lst, gListU_lst, gListU_tup, iOf_int, graphD, edD, optD, pvD, lvD, lvI, trD, Bool.xor_false, Bool.not_false, Bool.not_true]
      cases m with
      | zero => exact absurd h6 hx
      | succ m =>
        obtain ⟨i', u', c', e1, e2, h6⟩ := h6
        refine gIx_last ?_
        refine gIx_seq hs (edsD_get h4) ?_
        try simp only [ownLst, ownObj, mTake, mOf, fAndV, fOrV, fArgs, fCons, fNil, fVar_0, fVar_s, fUn, fBin, fBool, startE, envOf, slot, gSeq, frzE, gComp, gCompD, wipe_nil, wipe_cons, List.map_cons, List.map_nil, List.cons_append, List.nil_append, List.append_nil, true_and, and_true, List.set_cons_zero, List.set_cons_succ, List.length_cons, List.length_nil, List.replicate_succ, List.replicate_zero, Nat.reduceSub, Nat.reduceAdd, Nat.reduceLT, DEnds.fn, bOf_bl, eq_self, reduceIte, Bool.false_eq_true, gNotV_bl, Bool.not_true, Bool.not_false, g2I_int, g2I0_int, g1I_int, gLen_lst, gLen_tup, gInt_int, gMax2_int, gMin2_int, gIsN_non, gIsN_obj, gIsN_dT, gIsN_dK, gIsN_int, xsOf_lst, tsOf_tup, gIx_t0, gIx_t1, gIx_l0, gIx_l1, gIx_l2, gEqA_int, gEqA_str, gEqA_bl, gTup, gLst, Option.isSome_some, Bool.false_xor, Bool.true_xor, gFor, gNegI, gEqA_no, gIsN_lst, gIsN_tup, gIx_t2, Bool.not_not, dnE, dnL, decide_true, decide_false, gListL_lst, gTupL_lst, gListU_lst, gListU_tup, iOf_int, graphD, edD, optD, pvD, lvD, lvI, trD, Bool.xor_false, Bool.not_false, Bool.not_true]
        refine gIx_nat (la_get (by rw [ok.ll]; exact (ok.wf.at h4).1)) ?_
        rw [e1]
        refine ⟨?_, m, Nat.lt_succ_self m, r ++ [i], i', u', (x, c'), by omega, by rw [List.length_append, List.length_singleton]; omega, fun y hy => ?_, e2, ?_, h6, ?_⟩
        · rw [List.length_append, List.length_map, List.length_singleton, szL]
          have := ok.n0
          omega
        · rcases List.mem_append.mp hy with z | z
          · exact h3 y z
          · rw [List.mem_singleton.mp z]
            exact ⟨x, (ok.wf.at h4).1, e1⟩
        · rw [List.reverse_append]
          exact ⟨c.1, c.2, h4, h5⟩
        · rw [List.map_append]; rfl
abbrev s_ring_among : Stmt := topS 2
theorem sc_ring_among : FnScope ["edges", "last", "seen", "start", "node"] ["edges", "last"] (defScope s_ring_among) := ⟨rfl, rfl, rfl, by decide +kernel, rfl, by decide +kernel, by decide +kernel⟩
theorem ok_ring_among {f : Addr} {fd : FuncData} (F : Fun K "ring_among" "ring_among" s_ring_among f fd) (T : Bi mg) (c_ring_back : Cal P w K mg base "ring_back" 1 ["edges", "last", "node"] (.own 1) [] w_ring_back) : FnOk P w K mg base CX0 2 f fd ["edges", "last"] (spD K (.own 1) w_ring_among) := by
  refine Fun_okD F sc_ring_among (fun _ _ _ h => by obtain ⟨_, _, _, _, e, _, _, _, _⟩ := h; rw [e]; rfl) fun B cdv A outer s H E hr => ⟨_, (ds_cons (ds_setM 2 1 sc_ring_among.nd rfl (by first | exact Or.inl rfl | exact Or.inr rfl) (by decide) (dm_of (de_dnewK 0)))
(ds_cons (ds_for PassesOwn.never rfl (di_range T.range_ (de_len (m := .rd) T.len_ (de_v 1))) (dg_name 3 sc_ring_among.nd rfl (by first | exact Or.inl rfl | exact Or.inr rfl) (by decide))
(ds_cons (ds_setM 4 0 sc_ring_among.nd rfl (by first | exact Or.inl rfl | exact Or.inr rfl) (by decide) (dm_of (de_v 3)))
(ds_cons (ds_while PassesOwn.never (dt_bool (dw_and (dt_dnotin (hr.u 1) (de_v 4) (de_var 2 1)) (dw_and1 (dt_isnot (de_at (de_v 1) (de_v 4)) (de_non (m := .rd))))))
(ds_cons (ds_putK 2 (hr.u 1) (dm_of (de_v 3)) (de_v 4))
(ds_one (ds_setM 4 0 sc_ring_among.nd rfl (by first | exact Or.inl rfl | exact Or.inr rfl) (by decide) (dm_of (de_at (de_at (de_v 0) (de_at (de_v 1) (de_v 4))) (de_int (m := .rd))))))))
(ds_one (ds_if (dt_eq (de_dget1 (hr.u 1) (de_var 2 1) (de_rd (de_v 4))) (de_v 3))
(ds_one (ds_retM (dm_of (de_C c_ring_back hr (da_cons (m := .own 0) (de_v 0) (da_cons (m := .own 0) (de_v 1) (da_cons (m := .own 0) (de_v 4) da_nil)))))))
ds_nil)))))
(ds_one (ds_retM (dm_of (de_non (m := .own 1))))))), fun ds R ⟨es, n, la, ed, e, hs, ok, hN, hR⟩ => ?_⟩
  subst e
  try simp only [ownLst, ownObj, mTake, mOf, fAndV, fOrV, fArgs, fCons, fNil, fVar_0, fVar_s, fUn, fBin, fBool, startE, envOf, slot, gSeq, frzE, gComp, gCompD, wipe_nil, wipe_cons, List.map_cons, List.map_nil, List.cons_append, List.nil_append, List.append_nil, true_and, and_true, List.set_cons_zero, List.set_cons_succ, List.length_cons, List.length_nil, List.replicate_succ, List.replicate_zero, Nat.reduceSub, Nat.reduceAdd, Nat.reduceLT, DEnds.fn, bOf_bl, eq_self, reduceIte, Bool.false_eq_true, gNotV_bl, Bool.not_true, Bool.not_false, g2I_int, g2I0_int, g1I_int, gLen_lst, gLen_tup, gInt_int, gMax2_int, gMin2_int, gIsN_non, gIsN_obj, gIsN_dT, gIsN_dK, gIsN_int, xsOf_lst, tsOf_tup, gIx_t0, gIx_t1, gIx_l0, gIx_l1, gIx_l2, gEqA_int, gEqA_str, gEqA_bl, gTup, gLst, Option.isSome_some, Bool.false_xor, Bool.true_xor, gFor, gNegI, gEqA_no, gIsN_lst, gIsN_tup, gIx_t2, Bool.not_not, dnE, dnL, decide_true, decide_false, gListL_lst, gTupL_lst, gListU_lst, gListU_tup, iOf_int, graphD, edD, optD, pvD, lvD, lvI, trD, Bool.xor_false, Bool.not_false, Bool.not_true]
  rw [List.length_map, ok.ll]
  refine rng_go (by have := ok.n0; omega) ?_
  refine forD_go (fun xs ρ => ∃ (k m : Nat) (sn : List (Nat × Nat)) (v3 v4 : Option (Nat × D)), k + m = n ∧ xs = (List.range' k m).map natD ∧ AO es la n k sn ∧ ρ = [some (0, ed), some (0, .lst (la.map optD)), some (1, seenD sn), v3, v4]) ?_ ?_ _ _ ⟨0, n, [], none, none, by omega, rfl, AO.start, rfl⟩
  · rintro x r ρ ⟨k, m, sn, v3, v4, hk, ex, ao, rfl⟩ N hN2
    cases m with
    | zero => cases ex
    | succ m =>
      rw [List.range'_succ, List.map_cons] at ex
      injection ex with ex1 ex2
      subst ex1
      refine ⟨_, rfl, ?_⟩
      try simp only [ownLst, ownObj, mTake, mOf, fAndV, fOrV, fArgs, fCons, fNil, fVar_0, fVar_s, fUn, fBin, fBool, startE, envOf, slot, gSeq, frzE, gComp, gCompD, wipe_nil, wipe_cons, List.map_cons, List.map_nil, List.cons_append, List.nil_append, List.append_nil, true_and, and_true, List.set_cons_zero, List.set_cons_succ, List.length_cons, List.length_nil, List.replicate_succ, List.replicate_zero, Nat.reduceSub, Nat.reduceAdd, Nat.reduceLT, DEnds.fn, bOf_bl, eq_self, reduceIte, Bool.false_eq_true, gNotV_bl, Bool.not_true, Bool.not_false, g2I_int, g2I0_int, g1I_int, gLen_lst, gLen_tup, gInt_int, gMax2_int, gMin2_int, gIsN_non, gIsN_obj, gIsN_dT, gIsN_dK, gIsN_int, xsOf_lst, tsOf_tup, gIx_t0, gIx_t1, gIx_l0, gIx_l1, gIx_l2, gEqA_int, gEqA_str, gEqA_bl, gTup, gLst, Option.isSome_some, Bool.false_xor, Bool.true_xor, gFor, gNegI, gEqA_no, gIsN_lst, gIsN_tup, gIx_t2, Bool.not_not, dnE, dnL, decide_true, decide_false, gListL_lst, gTupL_lst, gListU_lst, gListU_tup, iOf_int, graphD, edD, optD, pvD, lvD, lvI, trD, Bool.xor_false, Bool.not_false, Bool.not_true]
      refine ⟨fun m ρ => ∃ (sn : List (Nat × Nat)) (node : Nat), AI es la n k sn node ∧ m + sn.length = n ∧ ρ = [some (0, ed), some (0, .lst (la.map optD)), some (1, seenD sn), some (0, natD k), some (0, natD node)], ⟨n - sn.length, sn, k, ao.into (by omega), by have := ao.len; omega, rfl⟩, ?_⟩
      rintro m1 ρ ⟨sn, node, ai, hm1, rfl⟩
      try simp only [ownLst, ownObj, mTake, mOf, fAndV, fOrV, fArgs, fCons, fNil, fVar_0, fVar_s, fUn, fBin, fBool, startE, envOf, slot, gSeq, frzE, gComp, gCompD, wipe_nil, wipe_cons, List.map_cons, List.map_nil, List.cons_append, List.nil_append, List.append_nil, true_and, and_true, List.set_cons_zero, List.set_cons_succ, List.length_cons, List.length_nil, List.replicate_succ, List.replicate_zero, Nat.reduceSub, Nat.reduceAdd, Nat.reduceLT, DEnds.fn, bOf_bl, eq_self, reduceIte, Bool.false_eq_true, gNotV_bl, Bool.not_true, Bool.not_false, g2I_int, g2I0_int, g1I_int, gLen_lst, gLen_tup, gInt_int, gMax2_int, gMin2_int, gIsN_non, gIsN_obj, gIsN_dT, gIsN_dK, gIsN_int, xsOf_lst, tsOf_tup, gIx_t0, gIx_t1, gIx_l0, gIx_l1, gIx_l2, gEqA_int, gEqA_str, gEqA_bl, gTup, gLst, Option.isSome_some, Bool.false_xor, Bool.true_xor, gFor, gNegI, gEqA_no, gIsN_lst, gIsN_tup, gIx_t2, Bool.not_not, dnE, dnL, decide_true, decide_false, gListL_lst, gTupL_lst, gListU_lst, gListU_tup, iOf_int, graphD, edD, optD, pvD, lvD, lvI, trD, Bool.xor_false, Bool.not_false, Bool.not_true]
      refine din_go ?_
      have hlt : node < la.length := by rw [ok.ll]; exact ai.lt
      by_cases hc : gt sn node = none ∧ lf la node ≠ none
      · obtain ⟨c1, c2⟩ := hc
        obtain ⟨i, ei⟩ := Option.ne_none_iff_exists'.mp c2
        obtain ⟨u, c, ee⟩ := ok.it node i ai.lt ei
        rw [c1]
        try simp only [ownLst, ownObj, mTake, mOf, fAndV, fOrV, fArgs, fCons, fNil, fVar_0, fVar_s, fUn, fBin, fBool, startE, envOf, slot, gSeq, frzE, gComp, gCompD, wipe_nil, wipe_cons, List.map_cons, List.map_nil, List.cons_append, List.nil_append, List.append_nil, true_and, and_true, List.set_cons_zero, List.set_cons_succ, List.length_cons, List.length_nil, List.replicate_succ, List.replicate_zero, Nat.reduceSub, Nat.reduceAdd, Nat.reduceLT, DEnds.fn, bOf_bl, eq_self, reduceIte, Bool.false_eq_true, gNotV_bl, Bool.not_true, Bool.not_false, g2I_int, g2I0_int, g1I_int, gLen_lst, gLen_tup, gInt_int, gMax2_int, gMin2_int, gIsN_non, gIsN_obj, gIsN_dT, gIsN_dK, gIsN_int, xsOf_lst, tsOf_tup, gIx_t0, gIx_t1, gIx_l0, gIx_l1, gIx_l2, gEqA_int, gEqA_str, gEqA_bl, gTup, gLst, Option.isSome_some, Bool.false_xor, Bool.true_xor, gFor, gNegI, gEqA_no, gIsN_lst, gIsN_tup, gIx_t2, Bool.not_not, dnE, dnL, decide_true, decide_false, gListL_lst, gTupL_lst, gListU_lst, gListU_tup, iOf_int, graphD, edD, optD, pvD, lvD, lvI, trD, Bool.xor_false, Bool.not_false, Bool.not_true]
        refine gIx_nat (la_get hlt) ?_
        rw [ei]
        try simp only [ownLst, ownObj, mTake, mOf, fAndV, fOrV, fArgs, fCons, fNil, fVar_0, fVar_s, fUn, fBin, fBool, startE, envOf, slot, gSeq, frzE, gComp, gCompD, wipe_nil, wipe_cons, List.map_cons, List.map_nil, List.cons_append, List.nil_append, List.append_nil, true_and, and_true, List.set_cons_zero, List.set_cons_succ, List.length_cons, List.length_nil, List.replicate_succ, List.replicate_zero, Nat.reduceSub, Nat.reduceAdd, Nat.reduceLT, DEnds.fn, bOf_bl, eq_self, reduceIte, Bool.false_eq_true, gNotV_bl, Bool.not_true, Bool.not_false, g2I_int, g2I0_int, g1I_int, gLen_lst, gLen_tup, gInt_int, gMax2_int, gMin2_int, gIsN_non, gIsN_obj, gIsN_dT, gIsN_dK, gIsN_int, xsOf_lst, tsOf_tup, gIx_t0, gIx_t1, gIx_l0, gIx_l1, gIx_l2, gEqA_int, gEqA_str, gEqA_bl, gTup, gLst, Option.isSome_some, Bool.false_xor, Bool.true_xor, gFor, gNegI, gEqA_no, gIsN_lst, gIsN_tup, gIx_t2, Bool.not_not, dnE, dnL, decide_true, decide_false, gListL_lst, gTupL_lst, gListU_lst, gListU_tup, iOf_int, graphD, edD, optD, pvD, lvD, lvI, trD, Bool.xor_false, Bool.not_false, Bool.not_true]
        refine ⟨ownDK_nT rfl trivial, _, rfl, ownDK_nT (f := natD) rfl ⟨?_, ?_⟩⟩
        · have := ai.len
          have := ok.n0
          rw [List.length_map, szL]; omega
        rw [putD_nat]
        try simp only [ownLst, ownObj, mTake, mOf, fAndV, fOrV, fArgs, fCons, fNil, fVar_0, fVar_s, fUn, fBin, fBool, startE, envOf, slot, gSeq, frzE, gComp, gCompD, wipe_nil, wipe_cons, List.map_cons, List.map_nil, List.cons_append, List.nil_append, List.append_nil, true_and, and_true, List.set_cons_zero, List.set_cons_succ, List.length_cons, List.length_nil, List.replicate_succ, List.replicate_zero, Nat.reduceSub, Nat.reduceAdd, Nat.reduceLT, DEnds.fn, bOf_bl, eq_self, reduceIte, Bool.false_eq_true, gNotV_bl, Bool.not_true, Bool.not_false, g2I_int, g2I0_int, g1I_int, gLen_lst, gLen_tup, gInt_int, gMax2_int, gMin2_int, gIsN_non, gIsN_obj, gIsN_dT, gIsN_dK, gIsN_int, xsOf_lst, tsOf_tup, gIx_t0, gIx_t1, gIx_l0, gIx_l1, gIx_l2, gEqA_int, gEqA_str, gEqA_bl, gTup, gLst, Option.isSome_some, Bool.false_xor, Bool.true_xor, gFor, gNegI, gEqA_no, gIsN_lst, gIsN_tup, gIx_t2, Bool.not_not, dnE, dnL, decide_true, decide_false, gListL_lst, gTupL_lst, gListU_lst, gListU_tup, iOf_int, graphD, edD, optD, pvD, lvD, lvI, trD, Bool.xor_false, Bool.not_false, Bool.not_true]
        refine gIx_nat (la_get hlt) ?_
        rw [ei]
        refine gIx_seq hs (edsD_get ee) ?_
        try simp only [ownLst, ownObj, mTake, mOf, fAndV, fOrV, fArgs, fCons, fNil, fVar_0, fVar_s, fUn, fBin, fBool, startE, envOf, slot, gSeq, frzE, gComp, gCompD, wipe_nil, wipe_cons, List.map_cons, List.map_nil, List.cons_append, List.nil_append, List.append_nil, true_and, and_true, List.set_cons_zero, List.set_cons_succ, List.length_cons, List.length_nil, List.replicate_succ, List.replicate_zero, Nat.reduceSub, Nat.reduceAdd, Nat.reduceLT, DEnds.fn, bOf_bl, eq_self, reduceIte, Bool.false_eq_true, gNotV_bl, Bool.not_true, Bool.not_false, g2I_int, g2I0_int, g1I_int, gLen_lst, gLen_tup, gInt_int, gMax2_int, gMin2_int, gIsN_non, gIsN_obj, gIsN_dT, gIsN_dK, gIsN_int, xsOf_lst, tsOf_tup, gIx_t0, gIx_t1, gIx_l0, gIx_l1, gIx_l2, gEqA_int, gEqA_str, gEqA_bl, gTup, gLst, Option.isSome_some, Bool.false_xor, Bool.true_xor, gFor, gNegI, gEqA_no, gIsN_lst, gIsN_tup, gIx_t2, Bool.not_not, dnE, dnL, decide_true, decide_false, gListL_lst, gTupL_lst, gListU_lst, gListU_tup, iOf_int, graphD, edD, optD, pvD, lvD, lvI, trD, Bool.xor_false, Bool.not_false, Bool.not_true]
        have hn : node ∉ sn.map (·.1) := gt_none.mp c1
        have hr := ai.room hn
        exact ⟨m1 - 1, by omega, _, u, ai.step ok.wf hn ei ee, by rw [ins_new hn, List.length_append, List.length_singleton]; omega, rfl⟩
      · have hend : node ∈ sn.map (·.1) ∨ lf la node = none := by
          cases q : gt sn node with
          | none => exact .inr (Decidable.byContradiction fun z => hc ⟨q, z⟩)
          | some w => exact .inl (Decidable.byContradiction fun z => by rw [gt_none.mpr z] at q; cases q)
        rcases q : gt sn node with _ | w
        case' none =>
          try simp only [ownLst, ownObj, mTake, mOf, fAndV, fOrV, fArgs, fCons, fNil, fVar_0, fVar_s, fUn, fBin, fBool, startE, envOf, slot, gSeq, frzE, gComp, gCompD, wipe_nil, wipe_cons, List.map_cons, List.map_nil, List.cons_append, List.nil_append, List.append_nil, true_and, and_true, List.set_cons_zero, List.set_cons_succ, List.length_cons, List.length_nil, List.replicate_succ, List.replicate_zero, Nat.reduceSub, Nat.reduceAdd, Nat.reduceLT, DEnds.fn, bOf_bl, eq_self, reduceIte, Bool.false_eq_true, gNotV_bl, Bool.not_true, Bool.not_false, g2I_int, g2I0_int, g1I_int, gLen_lst, gLen_tup, gInt_int, gMax2_int, gMin2_int, gIsN_non, gIsN_obj, gIsN_dT, gIsN_dK, gIsN_int, xsOf_lst, tsOf_tup, gIx_t0, gIx_t1, gIx_l0, gIx_l1, gIx_l2, gEqA_int, gEqA_str, gEqA_bl, gTup, gLst, Option.isSome_some, Bool.false_xor, Bool.true_xor, gFor, gNegI, gEqA_no, gIsN_lst, gIsN_tup, gIx_t2, Bool.not_not, dnE, dnL, decide_true, decide_false, gListL_lst, gTupL_lst, gListU_lst, gListU_tup, iOf_int, graphD, edD, optD, pvD, lvD, lvI, trD, Bool.xor_false, Bool.not_false, Bool.not_true]
          refine gIx_nat (la_get hlt) ?_
          rw [hend.elim (fun z => absurd z (gt_none.mp q)) id]
        all_goals
          try simp only [ownLst, ownObj, mTake, mOf, fAndV, fOrV, fArgs, fCons, fNil, fVar_0, fVar_s, fUn, fBin, fBool, startE, envOf, slot, gSeq, frzE, gComp, gCompD, wipe_nil, wipe_cons, List.map_cons, List.map_nil, List.cons_append, List.nil_append, List.append_nil, true_and, and_true, List.set_cons_zero, List.set_cons_succ, List.length_cons, List.length_nil, List.replicate_succ, List.replicate_zero, Nat.reduceSub, Nat.reduceAdd, Nat.reduceLT, DEnds.fn, bOf_bl, eq_self, reduceIte, Bool.false_eq_true, gNotV_bl, Bool.not_true, Bool.not_false, g2I_int, g2I0_int, g1I_int, gLen_lst, gLen_tup, gInt_int, gMax2_int, gMin2_int, gIsN_non, gIsN_obj, gIsN_dT, gIsN_dK, gIsN_int, xsOf_lst, tsOf_tup, gIx_t0, gIx_t1, gIx_l0, gIx_l1, gIx_l2, gEqA_int, gEqA_str, gEqA_bl, gTup, gLst, Option.isSome_some, Bool.false_xor, Bool.true_xor, gFor, gNegI, gEqA_no, gIsN_lst, gIsN_tup, gIx_t2, Bool.not_not, dnE, dnL, decide_true, decide_false, gListL_lst, gTupL_lst, gListU_lst, gListU_tup, iOf_int, graphD, edD, optD, pvD, lvD, lvI, trD, Bool.xor_false, Bool.not_false, Bool.not_true]
          refine ⟨trivial, dget1_go ?_⟩
          rw [q]
        · simp only [Option.map_none, Option.getD_none]
          try simp only [ownLst, ownObj, mTake, mOf, fAndV, fOrV, fArgs, fCons, fNil, fVar_0, fVar_s, fUn, fBin, fBool, startE, envOf, slot, gSeq, frzE, gComp, gCompD, wipe_nil, wipe_cons, List.map_cons, List.map_nil, List.cons_append, List.nil_append, List.append_nil, true_and, and_true, List.set_cons_zero, List.set_cons_succ, List.length_cons, List.length_nil, List.replicate_succ, List.replicate_zero, Nat.reduceSub, Nat.reduceAdd, Nat.reduceLT, DEnds.fn, bOf_bl, eq_self, reduceIte, Bool.false_eq_true, gNotV_bl, Bool.not_true, Bool.not_false, g2I_int, g2I0_int, g1I_int, gLen_lst, gLen_tup, gInt_int, gMax2_int, gMin2_int, gIsN_non, gIsN_obj, gIsN_dT, gIsN_dK, gIsN_int, xsOf_lst, tsOf_tup, gIx_t0, gIx_t1, gIx_l0, gIx_l1, gIx_l2, gEqA_int, gEqA_str, gEqA_bl, gTup, gLst, Option.isSome_some, Bool.false_xor, Bool.true_xor, gFor, gNegI, gEqA_no, gIsN_lst, gIsN_tup, gIx_t2, Bool.not_not, dnE, dnL, decide_true, decide_false, gListL_lst, gTupL_lst, gListU_lst, gListU_tup, iOf_int, graphD, edD, optD, pvD, lvD, lvI, trD, Bool.xor_false, Bool.not_false, Bool.not_true]
          exact hN2 _ ⟨k + 1, m, sn, _, _, by omega, ex2, ai.out hend (by rw [q]; simp), rfl⟩
        · simp only [Option.map_some, Option.getD_some]
          try simp only [ownLst, ownObj, mTake, mOf, fAndV, fOrV, fArgs, fCons, fNil, fVar_0, fVar_s, fUn, fBin, fBool, startE, envOf, slot, gSeq, frzE, gComp, gCompD, wipe_nil, wipe_cons, List.map_cons, List.map_nil, List.cons_append, List.nil_append, List.append_nil, true_and, and_true, List.set_cons_zero, List.set_cons_succ, List.length_cons, List.length_nil, List.replicate_succ, List.replicate_zero, Nat.reduceSub, Nat.reduceAdd, Nat.reduceLT, DEnds.fn, bOf_bl, eq_self, reduceIte, Bool.false_eq_true, gNotV_bl, Bool.not_true, Bool.not_false, g2I_int, g2I0_int, g1I_int, gLen_lst, gLen_tup, gInt_int, gMax2_int, gMin2_int, gIsN_non, gIsN_obj, gIsN_dT, gIsN_dK, gIsN_int, xsOf_lst, tsOf_tup, gIx_t0, gIx_t1, gIx_l0, gIx_l1, gIx_l2, gEqA_int, gEqA_str, gEqA_bl, gTup, gLst, Option.isSome_some, Bool.false_xor, Bool.true_xor, gFor, gNegI, gEqA_no, gIsN_lst, gIsN_tup, gIx_t2, Bool.not_not, dnE, dnL, decide_true, decide_false, gListL_lst, gTupL_lst, gListU_lst, gListU_tup, iOf_int, graphD, edD, optD, pvD, lvD, lvI, trD, Bool.xor_false, Bool.not_false, Bool.not_true]
          by_cases hw : w = k
          · rw [decide_eq_true hw]
            try simp only [ownLst, ownObj, mTake, mOf, fAndV, fOrV, fArgs, fCons, fNil, fVar_0, fVar_s, fUn, fBin, fBool, startE, envOf, slot, gSeq, frzE, gComp, gCompD, wipe_nil, wipe_cons, List.map_cons, List.map_nil, List.cons_append, List.nil_append, List.append_nil, true_and, and_true, List.set_cons_zero, List.set_cons_succ, List.length_cons, List.length_nil, List.replicate_succ, List.replicate_zero, Nat.reduceSub, Nat.reduceAdd, Nat.reduceLT, DEnds.fn, bOf_bl, eq_self, reduceIte, Bool.false_eq_true, gNotV_bl, Bool.not_true, Bool.not_false, g2I_int, g2I0_int, g1I_int, gLen_lst, gLen_tup, gInt_int, gMax2_int, gMin2_int, gIsN_non, gIsN_obj, gIsN_dT, gIsN_dK, gIsN_int, xsOf_lst, tsOf_tup, gIx_t0, gIx_t1, gIx_l0, gIx_l1, gIx_l2, gEqA_int, gEqA_str, gEqA_bl, gTup, gLst, Option.isSome_some, Bool.false_xor, Bool.true_xor, gFor, gNegI, gEqA_no, gIsN_lst, gIsN_tup, gIx_t2, Bool.not_not, dnE, dnL, decide_true, decide_false, gListL_lst, gTupL_lst, gListU_lst, gListU_tup, iOf_int, graphD, edD, optD, pvD, lvD, lvI, trD, Bool.xor_false, Bool.not_false, Bool.not_true]
            obtain ⟨j, j1, j2, pp⟩ := ai.ring (by rw [q, hw])
            refine ⟨es, n, la, ed, node, j - 1, rfl, hs, ok, ai.lt, by omega, by rw [show j - 1 + 1 = j by omega]; exact pp, fun is a b c d => hR node is a b c d⟩
          · rw [decide_eq_false hw]
            try simp only [ownLst, ownObj, mTake, mOf, fAndV, fOrV, fArgs, fCons, fNil, fVar_0, fVar_s, fUn, fBin, fBool, startE, envOf, slot, gSeq, frzE, gComp, gCompD, wipe_nil, wipe_cons, List.map_cons, List.map_nil, List.cons_append, List.nil_append, List.append_nil, true_and, and_true, List.set_cons_zero, List.set_cons_succ, List.length_cons, List.length_nil, List.replicate_succ, List.replicate_zero, Nat.reduceSub, Nat.reduceAdd, Nat.reduceLT, DEnds.fn, bOf_bl, eq_self, reduceIte, Bool.false_eq_true, gNotV_bl, Bool.not_true, Bool.not_false, g2I_int, g2I0_int, g1I_int, gLen_lst, gLen_tup, gInt_int, gMax2_int, gMin2_int, gIsN_non, gIsN_obj, gIsN_dT, gIsN_dK, gIsN_int, xsOf_lst, tsOf_tup, gIx_t0, gIx_t1, gIx_l0, gIx_l1, gIx_l2, gEqA_int, gEqA_str, gEqA_bl, gTup, gLst, Option.isSome_some, Bool.false_xor, Bool.true_xor, gFor, gNegI, gEqA_no, gIsN_lst, gIsN_tup, gIx_t2, Bool.not_not, dnE, dnL, decide_true, decide_false, gListL_lst, gTupL_lst, gListU_lst, gListU_tup, iOf_int, graphD, edD, optD, pvD, lvD, lvI, trD, Bool.xor_false, Bool.not_false, Bool.not_true]
            exact hN2 _ ⟨k + 1, m, sn, _, _, by omega, ex2, ai.out hend (by rw [q]; simp [hw]), rfl⟩
  · rintro ρ ⟨k, m, sn, v3, v4, hk, ex, ao, rfl⟩
    cases m with
    | succ m => cases ex
    | zero =>
      have hk : k = n := hk
      subst hk
      exact hN ao.done
abbrev s_prices_or_ring : Stmt := topS 3
theorem sc_prices_or_ring : FnScope ["count", "edges", "prices", "last", "_", "falls", "index", "tail", "head", "cost", "ring"] ["count", "edges"] (defScope s_prices_or_ring) := ⟨rfl, rfl, rfl, by decide +kernel, rfl, by decide +kernel, by decide +kernel⟩
theorem ok_prices_or_ring {f : Addr} {fd : FuncData} (F : Fun K "prices_or_ring" "prices_or_ring" s_prices_or_ring f fd) (T : Bi mg) (c_ring_among : Cal P w K mg base "ring_among" 2 ["edges", "last"] (.own 1) [] w_ring_among) : FnOk P w K mg base CX0 3 f fd ["count", "edges"] (spD K (.own 2) w_prices_or_ring) := by
  refine Fun_okD F sc_prices_or_ring (fun _ _ _ h => by obtain ⟨_, _, _, e, _, _, _, _⟩ := h; rw [e]; rfl) fun B cdv A outer s H E hr => ⟨_, (ds_cons (ds_setM 2 1 sc_prices_or_ring.nd rfl (by first | exact Or.inl rfl | exact Or.inr rfl) (by decide) (dm_of (de_rep (de_frz (de_lst 0 (da_cons (m := .own 0) (de_int (m := .own 0)) da_nil))) (de_v 0))))
(ds_cons (ds_setM 3 1 sc_prices_or_ring.nd rfl (by first | exact Or.inl rfl | exact Or.inr rfl) (by decide) (dm_of (de_rep (de_frz (de_lst 0 (da_cons (m := .own 0) (de_non (m := .own 0)) da_nil))) (de_v 0))))
(ds_cons (ds_for PassesOwn.never rfl (di_range T.range_ (de_v 0)) (dg_name 4 sc_prices_or_ring.nd rfl (by first | exact Or.inl rfl | exact Or.inr rfl) (by decide))
(ds_cons (ds_setM 5 0 sc_prices_or_ring.nd rfl (by first | exact Or.inl rfl | exact Or.inr rfl) (by decide) (dm_of (de_bl (m := .own 0))))
(ds_cons (ds_for PassesOwn.never rfl (di_enum T.enumerate_ (de_v 1)) (dg_tup2 rfl (dg_name 6 sc_prices_or_ring.nd rfl (by first | exact Or.inl rfl | exact Or.inr rfl) (by decide)) (dg_tup rfl (dgs_cons 7 sc_prices_or_ring.nd rfl (by first | exact Or.inl rfl | exact Or.inr rfl) (by decide) (dgs_cons 8 sc_prices_or_ring.nd rfl (by first | exact Or.inl rfl | exact Or.inr rfl) (by decide) (dgs_cons 9 sc_prices_or_ring.nd rfl (by first | exact Or.inl rfl | exact Or.inr rfl) (by decide) dgs_nil)))))
(ds_one (ds_if (dt_lt (de_add (m := .rd) (de_at (de_var 2 1) (de_v 7)) (de_v 9)) (de_at (de_var 2 1) (de_v 8)))
(ds_cons (ds_setL 2 0 (dm_of (de_add (m := .own 0) (de_at (de_var 2 1) (de_v 7)) (de_v 9))) (de_v 8))
(ds_cons (ds_setL 3 0 (dm_of (de_v 6)) (de_v 8))
(ds_one (ds_setM 5 0 sc_prices_or_ring.nd rfl (by first | exact Or.inl rfl | exact Or.inr rfl) (by decide) (dm_of (de_bl (m := .own 0)))))))
ds_nil)))
(ds_cons (ds_if (dt_not (dt_val (de_v 5)))
(ds_one (ds_retM (dm_tupTN 2 1)))
ds_nil)
(ds_cons (ds_setM 10 1 sc_prices_or_ring.nd rfl (by first | exact Or.inl rfl | exact Or.inr rfl) (by decide) (dm_of (de_CR (n := 1) c_ring_among hr (da_cons (m := .rd) (de_rd (de_v 1)) (da_cons (m := .rd) (de_rd (de_var 3 1)) da_nil)))))
(ds_one (ds_if (dt_isnot (de_var 10 1) (de_non (m := .rd)))
(ds_one (ds_retM (dm_tupTT 2 10 1)))
ds_nil)))))))
(ds_one (ds_retM (dm_tupTN 2 1)))))), fun ds R ⟨es, n, ed, e, hs, ok, hN, hR⟩ => ?_⟩
  subst e
  have n1 := ok.n0
  try simp only [ownLst, ownObj, mTake, mOf, fAndV, fOrV, fArgs, fCons, fNil, fVar_0, fVar_s, fUn, fBin, fBool, startE, envOf, slot, gSeq, frzE, gComp, gCompD, wipe_nil, wipe_cons, List.map_cons, List.map_nil, List.cons_append, List.nil_append, List.append_nil, true_and, and_true, List.set_cons_zero, List.set_cons_succ, List.length_cons, List.length_nil, List.replicate_succ, List.replicate_zero, Nat.reduceSub, Nat.reduceAdd, Nat.reduceLT, DEnds.fn, bOf_bl, eq_self, reduceIte, Bool.false_eq_true, gNotV_bl, Bool.not_true, Bool.not_false, g2I_int, g2I0_int, g1I_int, gLen_lst, gLen_tup, gInt_int, gMax2_int, gMin2_int, gIsN_non, gIsN_obj, gIsN_dT, gIsN_dK, gIsN_int, xsOf_lst, tsOf_tup, gIx_t0, gIx_t1, gIx_l0, gIx_l1, gIx_l2, gEqA_int, gEqA_str, gEqA_bl, gTup, gLst, Option.isSome_some, Bool.false_xor, Bool.true_xor, gFor, gNegI, gEqA_no, gIsN_lst, gIsN_tup, gIx_t2, Bool.not_not, dnE, dnL, decide_true, decide_false, gListL_lst, gTupL_lst, gListU_lst, gListU_tup, iOf_int, graphD, edD, optD, pvD, lvD, lvI, trD, Bool.xor_false, Bool.not_false, Bool.not_true]
  refine ⟨by decide, rep_go (by rw [szL]; omega) ⟨by decide, rep_go (by rw [szL]; omega) (rng_go (by omega) ?_)⟩⟩
  rw [show List.replicate n (D.int 0) = (List.replicate n (0 : Int)).map D.int from by rw [List.map_replicate], show List.replicate n D.non = (List.replicate n (none : Option Nat)).map optD from by rw [List.map_replicate]; rfl]
  refine forD_go (fun xs ρ => ∃ (k m : Nat) (ps : List Int) (la : List (Option Nat)) (v4 v5 v6 v7 v8 v9 v10 : Option (Nat × D)), k + m = n ∧ xs = (List.range' k m).map natD ∧ Inv es n ps la ∧ HI es n k ps ∧ (0 < k → ∀ v, v < n → ∃ d, Gr es la d v) ∧
    ρ = [some (0, natD n), some (0, ed), some (1, .lst (ps.map .int)), some (1, .lst (la.map optD)), v4, v5, v6, v7, v8, v9, v10]) ?_ ?_ _ _ ⟨0, n, _, _, none, none, none, none, none, none, none, by omega, rfl, Inv.start es n, HI.start es n, fun z => absurd z (Nat.lt_irrefl _), rfl⟩
  · rintro x r ρ ⟨k, m, ps, la, v4, v5, v6, v7, v8, v9, v10, hk, ex, hi, hh, hg, rfl⟩ N hN2
    cases m with
    | zero => cases ex
    | succ m =>
      rw [List.range'_succ, List.map_cons] at ex
      injection ex with ex1 ex2
      subst ex1
      refine ⟨_, rfl, ?_⟩
      try simp only [ownLst, ownObj, mTake, mOf, fAndV, fOrV, fArgs, fCons, fNil, fVar_0, fVar_s, fUn, fBin, fBool, startE, envOf, slot, gSeq, frzE, gComp, gCompD, wipe_nil, wipe_cons, List.map_cons, List.map_nil, List.cons_append, List.nil_append, List.append_nil, true_and, and_true, List.set_cons_zero, List.set_cons_succ, List.length_cons, List.length_nil, List.replicate_succ, List.replicate_zero, Nat.reduceSub, Nat.reduceAdd, Nat.reduceLT, DEnds.fn, bOf_bl, eq_self, reduceIte, Bool.false_eq_true, gNotV_bl, Bool.not_true, Bool.not_false, g2I_int, g2I0_int, g1I_int, gLen_lst, gLen_tup, gInt_int, gMax2_int, gMin2_int, gIsN_non, gIsN_obj, gIsN_dT, gIsN_dK, gIsN_int, xsOf_lst, tsOf_tup, gIx_t0, gIx_t1, gIx_l0, gIx_l1, gIx_l2, gEqA_int, gEqA_str, gEqA_bl, gTup, gLst, Option.isSome_some, Bool.false_xor, Bool.true_xor, gFor, gNegI, gEqA_no, gIsN_lst, gIsN_tup, gIx_t2, Bool.not_not, dnE, dnL, decide_true, decide_false, gListL_lst, gTupL_lst, gListU_lst, gListU_tup, iOf_int, graphD, edD, optD, pvD, lvD, lvI, trD, Bool.xor_false, Bool.not_false, Bool.not_true]
      refine enOf_seq hs ?_
      refine forD_go (fun xs ρ => ∃ (i : Nat) (ps' : List Int) (la' : List (Option Nat)) (fl : Bool) (v6 v7 v8 v9 : Option (Nat × D)), xs = (enumL (edsD es)).drop i ∧ i ≤ es.length ∧ Rd es n ps ps' la' fl i ∧
        ρ = [some (0, natD n), some (0, ed), some (1, .lst (ps'.map .int)), some (1, .lst (la'.map optD)), some (0, natD k), some (0, .bl fl), v6, v7, v8, v9, v10]) ?_ ?_ _ _ ⟨0, ps, la, false, _, _, _, _, rfl, Nat.zero_le _, Rd.start hi, rfl⟩
      · rintro x r ρ ⟨i, ps', la', fl, w6, w7, w8, w9, ey, hil, rd, rfl⟩ N3 hN3
        obtain ⟨⟨u, v, c⟩, he, rfl, er⟩ := en_drop ey
        have hi2 : i < es.length := (List.getElem?_eq_some_iff.mp he).1
        obtain ⟨hu, hv⟩ := ok.wf.at he
        have gu := ps_get (ps := ps') (v := u) (by rw [rd.inv.lp]; exact hu)
        have gv := ps_get (ps := ps') (v := v) (by rw [rd.inv.lp]; exact hv)
        refine ⟨_, rfl, ?_⟩
        try simp only [ownLst, ownObj, mTake, mOf, fAndV, fOrV, fArgs, fCons, fNil, fVar_0, fVar_s, fUn, fBin, fBool, startE, envOf, slot, gSeq, frzE, gComp, gCompD, wipe_nil, wipe_cons, List.map_cons, List.map_nil, List.cons_append, List.nil_append, List.append_nil, true_and, and_true, List.set_cons_zero, List.set_cons_succ, List.length_cons, List.length_nil, List.replicate_succ, List.replicate_zero, Nat.reduceSub, Nat.reduceAdd, Nat.reduceLT, DEnds.fn, bOf_bl, eq_self, reduceIte, Bool.false_eq_true, gNotV_bl, Bool.not_true, Bool.not_false, g2I_int, g2I0_int, g1I_int, gLen_lst, gLen_tup, gInt_int, gMax2_int, gMin2_int, gIsN_non, gIsN_obj, gIsN_dT, gIsN_dK, gIsN_int, xsOf_lst, tsOf_tup, gIx_t0, gIx_t1, gIx_l0, gIx_l1, gIx_l2, gEqA_int, gEqA_str, gEqA_bl, gTup, gLst, Option.isSome_some, Bool.false_xor, Bool.true_xor, gFor, gNegI, gEqA_no, gIsN_lst, gIsN_tup, gIx_t2, Bool.not_not, dnE, dnL, decide_true, decide_false, gListL_lst, gTupL_lst, gListU_lst, gListU_tup, iOf_int, graphD, edD, optD, pvD, lvD, lvI, trD, Bool.xor_false, Bool.not_false, Bool.not_true]
        refine gIx_nat gu ?_
        try simp only [ownLst, ownObj, mTake, mOf, fAndV, fOrV, fArgs, fCons, fNil, fVar_0, fVar_s, fUn, fBin, fBool, startE, envOf, slot, gSeq, frzE, gComp, gCompD, wipe_nil, wipe_cons, List.map_cons, List.map_nil, List.cons_append, List.nil_append, List.append_nil, true_and, and_true, List.set_cons_zero, List.set_cons_succ, List.length_cons, List.length_nil, List.replicate_succ, List.replicate_zero, Nat.reduceSub, Nat.reduceAdd, Nat.reduceLT, DEnds.fn, bOf_bl, eq_self, reduceIte, Bool.false_eq_true, gNotV_bl, Bool.not_true, Bool.not_false, g2I_int, g2I0_int, g1I_int, gLen_lst, gLen_tup, gInt_int, gMax2_int, gMin2_int, gIsN_non, gIsN_obj, gIsN_dT, gIsN_dK, gIsN_int, xsOf_lst, tsOf_tup, gIx_t0, gIx_t1, gIx_l0, gIx_l1, gIx_l2, gEqA_int, gEqA_str, gEqA_bl, gTup, gLst, Option.isSome_some, Bool.false_xor, Bool.true_xor, gFor, gNegI, gEqA_no, gIsN_lst, gIsN_tup, gIx_t2, Bool.not_not, dnE, dnL, decide_true, decide_false, gListL_lst, gTupL_lst, gListU_lst, gListU_tup, iOf_int, graphD, edD, optD, pvD, lvD, lvI, trD, Bool.xor_false, Bool.not_false, Bool.not_true]
        refine gIx_nat gv ?_
        try simp only [ownLst, ownObj, mTake, mOf, fAndV, fOrV, fArgs, fCons, fNil, fVar_0, fVar_s, fUn, fBin, fBool, startE, envOf, slot, gSeq, frzE, gComp, gCompD, wipe_nil, wipe_cons, List.map_cons, List.map_nil, List.cons_append, List.nil_append, List.append_nil, true_and, and_true, List.set_cons_zero, List.set_cons_succ, List.length_cons, List.length_nil, List.replicate_succ, List.replicate_zero, Nat.reduceSub, Nat.reduceAdd, Nat.reduceLT, DEnds.fn, bOf_bl, eq_self, reduceIte, Bool.false_eq_true, gNotV_bl, Bool.not_true, Bool.not_false, g2I_int, g2I0_int, g1I_int, gLen_lst, gLen_tup, gInt_int, gMax2_int, gMin2_int, gIsN_non, gIsN_obj, gIsN_dT, gIsN_dK, gIsN_int, xsOf_lst, tsOf_tup, gIx_t0, gIx_t1, gIx_l0, gIx_l1, gIx_l2, gEqA_int, gEqA_str, gEqA_bl, gTup, gLst, Option.isSome_some, Bool.false_xor, Bool.true_xor, gFor, gNegI, gEqA_no, gIsN_lst, gIsN_tup, gIx_t2, Bool.not_not, dnE, dnL, decide_true, decide_false, gListL_lst, gTupL_lst, gListU_lst, gListU_tup, iOf_int, graphD, edD, optD, pvD, lvD, lvI, trD, Bool.xor_false, Bool.not_false, Bool.not_true]
        by_cases hlt : pf ps' u + c < pf ps' v
        · rw [decide_eq_true hlt]
          try simp only [ownLst, ownObj, mTake, mOf, fAndV, fOrV, fArgs, fCons, fNil, fVar_0, fVar_s, fUn, fBin, fBool, startE, envOf, slot, gSeq, frzE, gComp, gCompD, wipe_nil, wipe_cons, List.map_cons, List.map_nil, List.cons_append, List.nil_append, List.append_nil, true_and, and_true, List.set_cons_zero, List.set_cons_succ, List.length_cons, List.length_nil, List.replicate_succ, List.replicate_zero, Nat.reduceSub, Nat.reduceAdd, Nat.reduceLT, DEnds.fn, bOf_bl, eq_self, reduceIte, Bool.false_eq_true, gNotV_bl, Bool.not_true, Bool.not_false, g2I_int, g2I0_int, g1I_int, gLen_lst, gLen_tup, gInt_int, gMax2_int, gMin2_int, gIsN_non, gIsN_obj, gIsN_dT, gIsN_dK, gIsN_int, xsOf_lst, tsOf_tup, gIx_t0, gIx_t1, gIx_l0, gIx_l1, gIx_l2, gEqA_int, gEqA_str, gEqA_bl, gTup, gLst, Option.isSome_some, Bool.false_xor, Bool.true_xor, gFor, gNegI, gEqA_no, gIsN_lst, gIsN_tup, gIx_t2, Bool.not_not, dnE, dnL, decide_true, decide_false, gListL_lst, gTupL_lst, gListU_lst, gListU_tup, iOf_int, graphD, edD, optD, pvD, lvD, lvI, trD, Bool.xor_false, Bool.not_false, Bool.not_true]
          refine gIx_nat gu ?_
          try simp only [ownLst, ownObj, mTake, mOf, fAndV, fOrV, fArgs, fCons, fNil, fVar_0, fVar_s, fUn, fBin, fBool, startE, envOf, slot, gSeq, frzE, gComp, gCompD, wipe_nil, wipe_cons, List.map_cons, List.map_nil, List.cons_append, List.nil_append, List.append_nil, true_and, and_true, List.set_cons_zero, List.set_cons_succ, List.length_cons, List.length_nil, List.replicate_succ, List.replicate_zero, Nat.reduceSub, Nat.reduceAdd, Nat.reduceLT, DEnds.fn, bOf_bl, eq_self, reduceIte, Bool.false_eq_true, gNotV_bl, Bool.not_true, Bool.not_false, g2I_int, g2I0_int, g1I_int, gLen_lst, gLen_tup, gInt_int, gMax2_int, gMin2_int, gIsN_non, gIsN_obj, gIsN_dT, gIsN_dK, gIsN_int, xsOf_lst, tsOf_tup, gIx_t0, gIx_t1, gIx_l0, gIx_l1, gIx_l2, gEqA_int, gEqA_str, gEqA_bl, gTup, gLst, Option.isSome_some, Bool.false_xor, Bool.true_xor, gFor, gNegI, gEqA_no, gIsN_lst, gIsN_tup, gIx_t2, Bool.not_not, dnE, dnL, decide_true, decide_false, gListL_lst, gTupL_lst, gListU_lst, gListU_tup, iOf_int, graphD, edD, optD, pvD, lvD, lvI, trD, Bool.xor_false, Bool.not_false, Bool.not_true]
          refine ⟨v, by rw [List.length_map, rd.inv.lp]; exact ixN_nat hv, ?_⟩
          try simp only [ownLst, ownObj, mTake, mOf, fAndV, fOrV, fArgs, fCons, fNil, fVar_0, fVar_s, fUn, fBin, fBool, startE, envOf, slot, gSeq, frzE, gComp, gCompD, wipe_nil, wipe_cons, List.map_cons, List.map_nil, List.cons_append, List.nil_append, List.append_nil, true_and, and_true, List.set_cons_zero, List.set_cons_succ, List.length_cons, List.length_nil, List.replicate_succ, List.replicate_zero, Nat.reduceSub, Nat.reduceAdd, Nat.reduceLT, DEnds.fn, bOf_bl, eq_self, reduceIte, Bool.false_eq_true, gNotV_bl, Bool.not_true, Bool.not_false, g2I_int, g2I0_int, g1I_int, gLen_lst, gLen_tup, gInt_int, gMax2_int, gMin2_int, gIsN_non, gIsN_obj, gIsN_dT, gIsN_dK, gIsN_int, xsOf_lst, tsOf_tup, gIx_t0, gIx_t1, gIx_l0, gIx_l1, gIx_l2, gEqA_int, gEqA_str, gEqA_bl, gTup, gLst, Option.isSome_some, Bool.false_xor, Bool.true_xor, gFor, gNegI, gEqA_no, gIsN_lst, gIsN_tup, gIx_t2, Bool.not_not, dnE, dnL, decide_true, decide_false, gListL_lst, gTupL_lst, gListU_lst, gListU_tup, iOf_int, graphD, edD, optD, pvD, lvD, lvI, trD, Bool.xor_false, Bool.not_false, Bool.not_true]
          refine ⟨v, by rw [List.length_map, rd.inv.ll]; exact ixN_nat hv, ?_⟩
          try simp only [ownLst, ownObj, mTake, mOf, fAndV, fOrV, fArgs, fCons, fNil, fVar_0, fVar_s, fUn, fBin, fBool, startE, envOf, slot, gSeq, frzE, gComp, gCompD, wipe_nil, wipe_cons, List.map_cons, List.map_nil, List.cons_append, List.nil_append, List.append_nil, true_and, and_true, List.set_cons_zero, List.set_cons_succ, List.length_cons, List.length_nil, List.replicate_succ, List.replicate_zero, Nat.reduceSub, Nat.reduceAdd, Nat.reduceLT, DEnds.fn, bOf_bl, eq_self, reduceIte, Bool.false_eq_true, gNotV_bl, Bool.not_true, Bool.not_false, g2I_int, g2I0_int, g1I_int, gLen_lst, gLen_tup, gInt_int, gMax2_int, gMin2_int, gIsN_non, gIsN_obj, gIsN_dT, gIsN_dK, gIsN_int, xsOf_lst, tsOf_tup, gIx_t0, gIx_t1, gIx_l0, gIx_l1, gIx_l2, gEqA_int, gEqA_str, gEqA_bl, gTup, gLst, Option.isSome_some, Bool.false_xor, Bool.true_xor, gFor, gNegI, gEqA_no, gIsN_lst, gIsN_tup, gIx_t2, Bool.not_not, dnE, dnL, decide_true, decide_false, gListL_lst, gTupL_lst, gListU_lst, gListU_tup, iOf_int, graphD, edD, optD, pvD, lvD, lvI, trD, Bool.xor_false, Bool.not_false, Bool.not_true]
          refine hN3 _ ⟨i + 1, _, _, true, some (0, natD i), some (0, natD u), some (0, natD v), some (0, .int c), er, by omega, rd.relax ok.wf he hlt, ?_⟩
          rw [List.map_set, List.map_set]; rfl
        · rw [decide_eq_false hlt]
          try simp only [ownLst, ownObj, mTake, mOf, fAndV, fOrV, fArgs, fCons, fNil, fVar_0, fVar_s, fUn, fBin, fBool, startE, envOf, slot, gSeq, frzE, gComp, gCompD, wipe_nil, wipe_cons, List.map_cons, List.map_nil, List.cons_append, List.nil_append, List.append_nil, true_and, and_true, List.set_cons_zero, List.set_cons_succ, List.length_cons, List.length_nil, List.replicate_succ, List.replicate_zero, Nat.reduceSub, Nat.reduceAdd, Nat.reduceLT, DEnds.fn, bOf_bl, eq_self, reduceIte, Bool.false_eq_true, gNotV_bl, Bool.not_true, Bool.not_false, g2I_int, g2I0_int, g1I_int, gLen_lst, gLen_tup, gInt_int, gMax2_int, gMin2_int, gIsN_non, gIsN_obj, gIsN_dT, gIsN_dK, gIsN_int, xsOf_lst, tsOf_tup, gIx_t0, gIx_t1, gIx_l0, gIx_l1, gIx_l2, gEqA_int, gEqA_str, gEqA_bl, gTup, gLst, Option.isSome_some, Bool.false_xor, Bool.true_xor, gFor, gNegI, gEqA_no, gIsN_lst, gIsN_tup, gIx_t2, Bool.not_not, dnE, dnL, decide_true, decide_false, gListL_lst, gTupL_lst, gListU_lst, gListU_tup, iOf_int, graphD, edD, optD, pvD, lvD, lvI, trD, Bool.xor_false, Bool.not_false, Bool.not_true]
          exact hN3 _ ⟨i + 1, _, _, fl, _, _, _, _, er, by omega, rd.skip ok.wf he hlt, rfl⟩
      · rintro ρ ⟨i, ps', la', fl, w6, w7, w8, w9, ey, hil, rd, rfl⟩
        have hi3 : i = es.length := Nat.le_antisymm hil (en_end ey)
        subst hi3
        try simp only [ownLst, ownObj, mTake, mOf, fAndV, fOrV, fArgs, fCons, fNil, fVar_0, fVar_s, fUn, fBin, fBool, startE, envOf, slot, gSeq, frzE, gComp, gCompD, wipe_nil, wipe_cons, List.map_cons, List.map_nil, List.cons_append, List.nil_append, List.append_nil, true_and, and_true, List.set_cons_zero, List.set_cons_succ, List.length_cons, List.length_nil, List.replicate_succ, List.replicate_zero, Nat.reduceSub, Nat.reduceAdd, Nat.reduceLT, DEnds.fn, bOf_bl, eq_self, reduceIte, Bool.false_eq_true, gNotV_bl, Bool.not_true, Bool.not_false, g2I_int, g2I0_int, g1I_int, gLen_lst, gLen_tup, gInt_int, gMax2_int, gMin2_int, gIsN_non, gIsN_obj, gIsN_dT, gIsN_dK, gIsN_int, xsOf_lst, tsOf_tup, gIx_t0, gIx_t1, gIx_l0, gIx_l1, gIx_l2, gEqA_int, gEqA_str, gEqA_bl, gTup, gLst, Option.isSome_some, Bool.false_xor, Bool.true_xor, gFor, gNegI, gEqA_no, gIsN_lst, gIsN_tup, gIx_t2, Bool.not_not, dnE, dnL, decide_true, decide_false, gListL_lst, gTupL_lst, gListU_lst, gListU_tup, iOf_int, graphD, edD, optD, pvD, lvD, lvI, trD, Bool.xor_false, Bool.not_false, Bool.not_true]
        cases fl with
        | false =>
          try simp only [ownLst, ownObj, mTake, mOf, fAndV, fOrV, fArgs, fCons, fNil, fVar_0, fVar_s, fUn, fBin, fBool, startE, envOf, slot, gSeq, frzE, gComp, gCompD, wipe_nil, wipe_cons, List.map_cons, List.map_nil, List.cons_append, List.nil_append, List.append_nil, true_and, and_true, List.set_cons_zero, List.set_cons_succ, List.length_cons, List.length_nil, List.replicate_succ, List.replicate_zero, Nat.reduceSub, Nat.reduceAdd, Nat.reduceLT, DEnds.fn, bOf_bl, eq_self, reduceIte, Bool.false_eq_true, gNotV_bl, Bool.not_true, Bool.not_false, g2I_int, g2I0_int, g1I_int, gLen_lst, gLen_tup, gInt_int, gMax2_int, gMin2_int, gIsN_non, gIsN_obj, gIsN_dT, gIsN_dK, gIsN_int, xsOf_lst, tsOf_tup, gIx_t0, gIx_t1, gIx_l0, gIx_l1, gIx_l2, gEqA_int, gEqA_str, gEqA_bl, gTup, gLst, Option.isSome_some, Bool.false_xor, Bool.true_xor, gFor, gNegI, gEqA_no, gIsN_lst, gIsN_tup, gIx_t2, Bool.not_not, dnE, dnL, decide_true, decide_false, gListL_lst, gTupL_lst, gListU_lst, gListU_tup, iOf_int, graphD, edD, optD, pvD, lvD, lvI, trD, Bool.xor_false, Bool.not_false, Bool.not_true]
          exact hN ps' rd.inv.lp rd.none
        | true =>
          try simp only [ownLst, ownObj, mTake, mOf, fAndV, fOrV, fArgs, fCons, fNil, fVar_0, fVar_s, fUn, fBin, fBool, startE, envOf, slot, gSeq, frzE, gComp, gCompD, wipe_nil, wipe_cons, List.map_cons, List.map_nil, List.cons_append, List.nil_append, List.append_nil, true_and, and_true, List.set_cons_zero, List.set_cons_succ, List.length_cons, List.length_nil, List.replicate_succ, List.replicate_zero, Nat.reduceSub, Nat.reduceAdd, Nat.reduceLT, DEnds.fn, bOf_bl, eq_self, reduceIte, Bool.false_eq_true, gNotV_bl, Bool.not_true, Bool.not_false, g2I_int, g2I0_int, g1I_int, gLen_lst, gLen_tup, gInt_int, gMax2_int, gMin2_int, gIsN_non, gIsN_obj, gIsN_dT, gIsN_dK, gIsN_int, xsOf_lst, tsOf_tup, gIx_t0, gIx_t1, gIx_l0, gIx_l1, gIx_l2, gEqA_int, gEqA_str, gEqA_bl, gTup, gLst, Option.isSome_some, Bool.false_xor, Bool.true_xor, gFor, gNegI, gEqA_no, gIsN_lst, gIsN_tup, gIx_t2, Bool.not_not, dnE, dnL, decide_true, decide_false, gListL_lst, gTupL_lst, gListU_lst, gListU_tup, iOf_int, graphD, edD, optD, pvD, lvD, lvI, trD, Bool.xor_false, Bool.not_false, Bool.not_true]
          refine ⟨es, n, la', ed, rfl, hs, rd.inv.la ok.wf n1, fun G => ?_, fun node is i1 i2 i3 i4 => ?_⟩
          · refine ⟨rfl, ?_⟩
            try simp only [ownLst, ownObj, mTake, mOf, fAndV, fOrV, fArgs, fCons, fNil, fVar_0, fVar_s, fUn, fBin, fBool, startE, envOf, slot, gSeq, frzE, gComp, gCompD, wipe_nil, wipe_cons, List.map_cons, List.map_nil, List.cons_append, List.nil_append, List.append_nil, true_and, and_true, List.set_cons_zero, List.set_cons_succ, List.length_cons, List.length_nil, List.replicate_succ, List.replicate_zero, Nat.reduceSub, Nat.reduceAdd, Nat.reduceLT, DEnds.fn, bOf_bl, eq_self, reduceIte, Bool.false_eq_true, gNotV_bl, Bool.not_true, Bool.not_false, g2I_int, g2I0_int, g1I_int, gLen_lst, gLen_tup, gInt_int, gMax2_int, gMin2_int, gIsN_non, gIsN_obj, gIsN_dT, gIsN_dK, gIsN_int, xsOf_lst, tsOf_tup, gIx_t0, gIx_t1, gIx_l0, gIx_l1, gIx_l2, gEqA_int, gEqA_str, gEqA_bl, gTup, gLst, Option.isSome_some, Bool.false_xor, Bool.true_xor, gFor, gNegI, gEqA_no, gIsN_lst, gIsN_tup, gIx_t2, Bool.not_not, dnE, dnL, decide_true, decide_false, gListL_lst, gTupL_lst, gListU_lst, gListU_tup, iOf_int, graphD, edD, optD, pvD, lvD, lvI, trD, Bool.xor_false, Bool.not_false, Bool.not_true]
            exact hN2 _ ⟨k + 1, m, ps', la', _, _, _, _, _, _, _, by omega, ex2, rd.inv, hh.next ok.wf rd, fun _ => G, rfl⟩
          · refine ⟨flat_nats is, ?_⟩
            try simp only [ownLst, ownObj, mTake, mOf, fAndV, fOrV, fArgs, fCons, fNil, fVar_0, fVar_s, fUn, fBin, fBool, startE, envOf, slot, gSeq, frzE, gComp, gCompD, wipe_nil, wipe_cons, List.map_cons, List.map_nil, List.cons_append, List.nil_append, List.append_nil, true_and, and_true, List.set_cons_zero, List.set_cons_succ, List.length_cons, List.length_nil, List.replicate_succ, List.replicate_zero, Nat.reduceSub, Nat.reduceAdd, Nat.reduceLT, DEnds.fn, bOf_bl, eq_self, reduceIte, Bool.false_eq_true, gNotV_bl, Bool.not_true, Bool.not_false, g2I_int, g2I0_int, g1I_int, gLen_lst, gLen_tup, gInt_int, gMax2_int, gMin2_int, gIsN_non, gIsN_obj, gIsN_dT, gIsN_dK, gIsN_int, xsOf_lst, tsOf_tup, gIx_t0, gIx_t1, gIx_l0, gIx_l1, gIx_l2, gEqA_int, gEqA_str, gEqA_bl, gTup, gLst, Option.isSome_some, Bool.false_xor, Bool.true_xor, gFor, gNegI, gEqA_no, gIsN_lst, gIsN_tup, gIx_t2, Bool.not_not, dnE, dnL, decide_true, decide_false, gListL_lst, gTupL_lst, gListU_lst, gListU_tup, iOf_int, graphD, edD, optD, pvD, lvD, lvI, trD, Bool.xor_false, Bool.not_false, Bool.not_true]
            exact hR ps' node is rd.inv.lp i1 i2 (rd.inv.i2 node is i1 i2 i3) i4
  · rintro ρ ⟨k, m, ps, la, v4, v5, v6, v7, v8, v9, v10, hk, ex, hi, hh, hg, rfl⟩
    cases m with
    | succ m => cases ex
    | zero =>
      have hk : k = n := hk
      subst hk
      try simp only [ownLst, ownObj, mTake, mOf, fAndV, fOrV, fArgs, fCons, fNil, fVar_0, fVar_s, fUn, fBin, fBool, startE, envOf, slot, gSeq, frzE, gComp, gCompD, wipe_nil, wipe_cons, List.map_cons, List.map_nil, List.cons_append, List.nil_append, List.append_nil, true_and, and_true, List.set_cons_zero, List.set_cons_succ, List.length_cons, List.length_nil, List.replicate_succ, List.replicate_zero, Nat.reduceSub, Nat.reduceAdd, Nat.reduceLT, DEnds.fn, bOf_bl, eq_self, reduceIte, Bool.false_eq_true, gNotV_bl, Bool.not_true, Bool.not_false, g2I_int, g2I0_int, g1I_int, gLen_lst, gLen_tup, gInt_int, gMax2_int, gMin2_int, gIsN_non, gIsN_obj, gIsN_dT, gIsN_dK, gIsN_int, xsOf_lst, tsOf_tup, gIx_t0, gIx_t1, gIx_l0, gIx_l1, gIx_l2, gEqA_int, gEqA_str, gEqA_bl, gTup, gLst, Option.isSome_some, Bool.false_xor, Bool.true_xor, gFor, gNegI, gEqA_no, gIsN_lst, gIsN_tup, gIx_t2, Bool.not_not, dnE, dnL, decide_true, decide_false, gListL_lst, gTupL_lst, gListU_lst, gListU_tup, iOf_int, graphD, edD, optD, pvD, lvD, lvI, trD, Bool.xor_false, Bool.not_false, Bool.not_true]
      refine hN ps hi.lp fun j c => ?_
      by_cases h0 : k = 0
      · subst h0
        exact no_cn0 ok.wf j c
      · exact hh.absurd ok.wf (by omega) hi (hg (by omega))
abbrev s_edges_leaving : Stmt := topS 4
theorem sc_edges_leaving : FnScope ["count", "edges", "prices", "_", "leaving", "index", "tail", "head", "cost"] ["count", "edges", "prices"] (defScope s_edges_leaving) := ⟨rfl, rfl, rfl, by decide +kernel, rfl, by decide +kernel, by decide +kernel⟩
theorem ok_edges_leaving {f : Addr} {fd : FuncData} (F : Fun K "edges_leaving" "edges_leaving" s_edges_leaving f fd) (T : Bi mg)  : FnOk P w K mg base CX0 1 f fd ["count", "edges", "prices"] (spD K (.own 0) w_edges_leaving) := by
  refine Fun_okD F sc_edges_leaving (fun _ _ _ h => by obtain ⟨_, _, _, _, e, _, _, _, _⟩ := h; rw [e]; rfl) fun B cdv A outer s H E hr => ⟨_, (ds_cons (ds_setLc (own := [("_", 3)]) 4 1 rfl sc_edges_leaving.nd rfl rfl (by decide) (sw_true rfl rfl rfl rfl) (di_range T.range_ (de_v 0)) (blk_of ["count", "edges", "prices", "_", "leaving", "index", "tail", "head", "cost"] (defScope s_edges_leaving) rfl (by decide +kernel) (by decide +kernel) (by decide +kernel) (by decide +kernel)) (dgc_name 3 sc_edges_leaving.nd rfl) (hol_cons rfl (fun _ _ => rfl) hol_nil) (fun _ _ _ _ _ => dts_nil) (fun _ _ _ _ _ => (de_lst 0 da_nil)))
(ds_cons (ds_for PassesOwn.never rfl (di_enum T.enumerate_ (de_v 1)) (dg_tup2 rfl (dg_name 5 sc_edges_leaving.nd rfl (by first | exact Or.inl rfl | exact Or.inr rfl) (by decide)) (dg_tup rfl (dgs_cons 6 sc_edges_leaving.nd rfl (by first | exact Or.inl rfl | exact Or.inr rfl) (by decide) (dgs_cons 7 sc_edges_leaving.nd rfl (by first | exact Or.inl rfl | exact Or.inr rfl) (by decide) (dgs_cons 8 sc_edges_leaving.nd rfl (by first | exact Or.inl rfl | exact Or.inr rfl) (by decide) dgs_nil)))))
(ds_one (ds_exprM (m := .own 0) (dm_appendP 0 (dp_ix (dp_var 4) (de_v 6)) (de_tup (da_cons (m := .own 0) (de_v 5) (da_cons (m := .own 0) (de_v 7) (da_cons (m := .own 0) (de_sub (m := .own 0) (de_add (m := .rd) (de_v 8) (de_at (de_v 2) (de_v 6))) (de_at (de_v 2) (de_v 7))) da_nil))))))))
(ds_one (ds_frz 4 (ds_retM (dm_of (de_v 4))))))), fun ds R ⟨es, n, ed, ps, e, hs, ok, hl, hR⟩ => ?_⟩
  subst e
  have n1 := ok.n0
  try simp only [ownLst, ownObj, mTake, mOf, fAndV, fOrV, fArgs, fCons, fNil, fVar_0, fVar_s, fUn, fBin, fBool, startE, envOf, slot, gSeq, frzE, gComp, gCompD, wipe_nil, wipe_cons, List.map_cons, List.map_nil, List.cons_append, List.nil_append, List.append_nil, true_and, and_true, List.set_cons_zero, List.set_cons_succ, List.length_cons, List.length_nil, List.replicate_succ, List.replicate_zero, Nat.reduceSub, Nat.reduceAdd, Nat.reduceLT, DEnds.fn, bOf_bl, eq_self, reduceIte, Bool.false_eq_true, gNotV_bl, Bool.not_true, Bool.not_false, g2I_int, g2I0_int, g1I_int, gLen_lst, gLen_tup, gInt_int, gMax2_int, gMin2_int, gIsN_non, gIsN_obj, gIsN_dT, gIsN_dK, gIsN_int, xsOf_lst, tsOf_tup, gIx_t0, gIx_t1, gIx_l0, gIx_l1, gIx_l2, gEqA_int, gEqA_str, gEqA_bl, gTup, gLst, Option.isSome_some, Bool.false_xor, Bool.true_xor, gFor, gNegI, gEqA_no, gIsN_lst, gIsN_tup, gIx_t2, Bool.not_not, dnE, dnL, decide_true, decide_false, gListL_lst, gTupL_lst, gListU_lst, gListU_tup, iOf_int, graphD, edD, optD, pvD, lvD, lvI, trD, Bool.xor_false, Bool.not_false, Bool.not_true]
  refine rng_go (by omega) ?_
  refine compD_map (xs := List.range' 0 n) natD (fun _ => some (.lst [])) (fun k hk N hN => ⟨_, rfl, ?_⟩) (by rw [List.length_range', szL]; omega) ?_
  · try simp only [ownLst, ownObj, mTake, mOf, fAndV, fOrV, fArgs, fCons, fNil, fVar_0, fVar_s, fUn, fBin, fBool, startE, envOf, slot, gSeq, frzE, gComp, gCompD, wipe_nil, wipe_cons, List.map_cons, List.map_nil, List.cons_append, List.nil_append, List.append_nil, true_and, and_true, List.set_cons_zero, List.set_cons_succ, List.length_cons, List.length_nil, List.replicate_succ, List.replicate_zero, Nat.reduceSub, Nat.reduceAdd, Nat.reduceLT, DEnds.fn, bOf_bl, eq_self, reduceIte, Bool.false_eq_true, gNotV_bl, Bool.not_true, Bool.not_false, g2I_int, g2I0_int, g1I_int, gLen_lst, gLen_tup, gInt_int, gMax2_int, gMin2_int, gIsN_non, gIsN_obj, gIsN_dT, gIsN_dK, gIsN_int, xsOf_lst, tsOf_tup, gIx_t0, gIx_t1, gIx_l0, gIx_l1, gIx_l2, gEqA_int, gEqA_str, gEqA_bl, gTup, gLst, Option.isSome_some, Bool.false_xor, Bool.true_xor, gFor, gNegI, gEqA_no, gIsN_lst, gIsN_tup, gIx_t2, Bool.not_not, dnE, dnL, decide_true, decide_false, gListL_lst, gTupL_lst, gListU_lst, gListU_tup, iOf_int, graphD, edD, optD, pvD, lvD, lvI, trD, Bool.xor_false, Bool.not_false, Bool.not_true]
    exact ⟨by decide, hN⟩
  rw [fm_const, List.length_range']
  refine enOf_seq hs ?_
  rw [show List.replicate n (D.lst []) = (List.replicate n ([] : List (Nat × Nat × Int))).map lvI from by rw [List.map_replicate]; rfl]
  refine forD_go (fun xs ρ => ∃ (i : Nat) (lv : Lv) (v5 v6 v7 v8 : Option (Nat × D)), xs = (enumL (edsD es)).drop i ∧ i ≤ es.length ∧ LvK (red (pf ps) es) n i lv ∧ ρ = [some (0, natD n), some (0, ed), some (0, .lst (ps.map .int)), none, some (2, .lst (lv.map lvI)), v5, v6, v7, v8]) ?_ ?_ _ _ ⟨0, _, none, none, none, none, rfl, Nat.zero_le _, LvK.start _ n, rfl⟩
  · rintro x r ρ ⟨i, lv, v5, v6, v7, v8, ex, hi, L, rfl⟩ N hN
    obtain ⟨⟨u, v, c⟩, he, rfl, er⟩ := en_drop ex
    have hi2 : i < es.length := (List.getElem?_eq_some_iff.mp he).1
    obtain ⟨hu, hv⟩ := ok.wf.at he
    have gu := ps_get (ps := ps) (v := u) (by rw [hl]; exact hu)
    have gv := ps_get (ps := ps) (v := v) (by rw [hl]; exact hv)
    have gl := lv_get (lv := lv) (v := u) (by rw [L.len]; exact hu)
    refine ⟨_, rfl, ?_⟩
    try simp only [ownLst, ownObj, mTake, mOf, fAndV, fOrV, fArgs, fCons, fNil, fVar_0, fVar_s, fUn, fBin, fBool, startE, envOf, slot, gSeq, frzE, gComp, gCompD, wipe_nil, wipe_cons, List.map_cons, List.map_nil, List.cons_append, List.nil_append, List.append_nil, true_and, and_true, List.set_cons_zero, List.set_cons_succ, List.length_cons, List.length_nil, List.replicate_succ, List.replicate_zero, Nat.reduceSub, Nat.reduceAdd, Nat.reduceLT, DEnds.fn, bOf_bl, eq_self, reduceIte, Bool.false_eq_true, gNotV_bl, Bool.not_true, Bool.not_false, g2I_int, g2I0_int, g1I_int, gLen_lst, gLen_tup, gInt_int, gMax2_int, gMin2_int, gIsN_non, gIsN_obj, gIsN_dT, gIsN_dK, gIsN_int, xsOf_lst, tsOf_tup, gIx_t0, gIx_t1, gIx_l0, gIx_l1, gIx_l2, gEqA_int, gEqA_str, gEqA_bl, gTup, gLst, Option.isSome_some, Bool.false_xor, Bool.true_xor, gFor, gNegI, gEqA_no, gIsN_lst, gIsN_tup, gIx_t2, Bool.not_not, dnE, dnL, decide_true, decide_false, gListL_lst, gTupL_lst, gListU_lst, gListU_tup, iOf_int, graphD, edD, optD, pvD, lvD, lvI, trD, Bool.xor_false, Bool.not_false, Bool.not_true]
    refine atP_go (n := 1) rfl rfl ⟨_, _, u, rfl, rfl, by rw [List.length_map, L.len]; exact ixN_nat hu, atLst_go (n := 0) rfl (sub_ix gl) trivial, ?_⟩
    try simp only [ownLst, ownObj, mTake, mOf, fAndV, fOrV, fArgs, fCons, fNil, fVar_0, fVar_s, fUn, fBin, fBool, startE, envOf, slot, gSeq, frzE, gComp, gCompD, wipe_nil, wipe_cons, List.map_cons, List.map_nil, List.cons_append, List.nil_append, List.append_nil, true_and, and_true, List.set_cons_zero, List.set_cons_succ, List.length_cons, List.length_nil, List.replicate_succ, List.replicate_zero, Nat.reduceSub, Nat.reduceAdd, Nat.reduceLT, DEnds.fn, bOf_bl, eq_self, reduceIte, Bool.false_eq_true, gNotV_bl, Bool.not_true, Bool.not_false, g2I_int, g2I0_int, g1I_int, gLen_lst, gLen_tup, gInt_int, gMax2_int, gMin2_int, gIsN_non, gIsN_obj, gIsN_dT, gIsN_dK, gIsN_int, xsOf_lst, tsOf_tup, gIx_t0, gIx_t1, gIx_l0, gIx_l1, gIx_l2, gEqA_int, gEqA_str, gEqA_bl, gTup, gLst, Option.isSome_some, Bool.false_xor, Bool.true_xor, gFor, gNegI, gEqA_no, gIsN_lst, gIsN_tup, gIx_t2, Bool.not_not, dnE, dnL, decide_true, decide_false, gListL_lst, gTupL_lst, gListU_lst, gListU_tup, iOf_int, graphD, edD, optD, pvD, lvD, lvI, trD, Bool.xor_false, Bool.not_false, Bool.not_true]
    refine gIx_nat gu ?_
    try simp only [ownLst, ownObj, mTake, mOf, fAndV, fOrV, fArgs, fCons, fNil, fVar_0, fVar_s, fUn, fBin, fBool, startE, envOf, slot, gSeq, frzE, gComp, gCompD, wipe_nil, wipe_cons, List.map_cons, List.map_nil, List.cons_append, List.nil_append, List.append_nil, true_and, and_true, List.set_cons_zero, List.set_cons_succ, List.length_cons, List.length_nil, List.replicate_succ, List.replicate_zero, Nat.reduceSub, Nat.reduceAdd, Nat.reduceLT, DEnds.fn, bOf_bl, eq_self, reduceIte, Bool.false_eq_true, gNotV_bl, Bool.not_true, Bool.not_false, g2I_int, g2I0_int, g1I_int, gLen_lst, gLen_tup, gInt_int, gMax2_int, gMin2_int, gIsN_non, gIsN_obj, gIsN_dT, gIsN_dK, gIsN_int, xsOf_lst, tsOf_tup, gIx_t0, gIx_t1, gIx_l0, gIx_l1, gIx_l2, gEqA_int, gEqA_str, gEqA_bl, gTup, gLst, Option.isSome_some, Bool.false_xor, Bool.true_xor, gFor, gNegI, gEqA_no, gIsN_lst, gIsN_tup, gIx_t2, Bool.not_not, dnE, dnL, decide_true, decide_false, gListL_lst, gTupL_lst, gListU_lst, gListU_tup, iOf_int, graphD, edD, optD, pvD, lvD, lvI, trD, Bool.xor_false, Bool.not_false, Bool.not_true]
    refine gIx_nat gv ?_
    try simp only [ownLst, ownObj, mTake, mOf, fAndV, fOrV, fArgs, fCons, fNil, fVar_0, fVar_s, fUn, fBin, fBool, startE, envOf, slot, gSeq, frzE, gComp, gCompD, wipe_nil, wipe_cons, List.map_cons, List.map_nil, List.cons_append, List.nil_append, List.append_nil, true_and, and_true, List.set_cons_zero, List.set_cons_succ, List.length_cons, List.length_nil, List.replicate_succ, List.replicate_zero, Nat.reduceSub, Nat.reduceAdd, Nat.reduceLT, DEnds.fn, bOf_bl, eq_self, reduceIte, Bool.false_eq_true, gNotV_bl, Bool.not_true, Bool.not_false, g2I_int, g2I0_int, g1I_int, gLen_lst, gLen_tup, gInt_int, gMax2_int, gMin2_int, gIsN_non, gIsN_obj, gIsN_dT, gIsN_dK, gIsN_int, xsOf_lst, tsOf_tup, gIx_t0, gIx_t1, gIx_l0, gIx_l1, gIx_l2, gEqA_int, gEqA_str, gEqA_bl, gTup, gLst, Option.isSome_some, Bool.false_xor, Bool.true_xor, gFor, gNegI, gEqA_no, gIsN_lst, gIsN_tup, gIx_t2, Bool.not_not, dnE, dnL, decide_true, decide_false, gListL_lst, gTupL_lst, gListU_lst, gListU_tup, iOf_int, graphD, edD, optD, pvD, lvD, lvI, trD, Bool.xor_false, Bool.not_false, Bool.not_true]
    refine ⟨by decide, atLst_go (n := 0) rfl (sub_ix gl) ⟨?_, ?_⟩⟩
    · rw [List.length_map, szL]
      have := L.le u hu
      have := ok.le
      omega
    rw [set_ix gl]
    refine hN _ ⟨i + 1, _, some (0, natD i), some (0, natD u), some (0, natD v), some (0, .int c), er, hi2, L.step (red_at he) hu, ?_⟩
    rw [List.map_set]
    unfold lvI
    rw [List.map_append]; rfl
  · rintro ρ ⟨i, lv, v5, v6, v7, v8, ex, hi, L, rfl⟩
    have hi3 : i = es.length := Nat.le_antisymm hi (en_end ex)
    subst hi3
    try simp only [ownLst, ownObj, mTake, mOf, fAndV, fOrV, fArgs, fCons, fNil, fVar_0, fVar_s, fUn, fBin, fBool, startE, envOf, slot, gSeq, frzE, gComp, gCompD, wipe_nil, wipe_cons, List.map_cons, List.map_nil, List.cons_append, List.nil_append, List.append_nil, true_and, and_true, List.set_cons_zero, List.set_cons_succ, List.length_cons, List.length_nil, List.replicate_succ, List.replicate_zero, Nat.reduceSub, Nat.reduceAdd, Nat.reduceLT, DEnds.fn, bOf_bl, eq_self, reduceIte, Bool.false_eq_true, gNotV_bl, Bool.not_true, Bool.not_false, g2I_int, g2I0_int, g1I_int, gLen_lst, gLen_tup, gInt_int, gMax2_int, gMin2_int, gIsN_non, gIsN_obj, gIsN_dT, gIsN_dK, gIsN_int, xsOf_lst, tsOf_tup, gIx_t0, gIx_t1, gIx_l0, gIx_l1, gIx_l2, gEqA_int, gEqA_str, gEqA_bl, gTup, gLst, Option.isSome_some, Bool.false_xor, Bool.true_xor, gFor, gNegI, gEqA_no, gIsN_lst, gIsN_tup, gIx_t2, Bool.not_not, dnE, dnL, decide_true, decide_false, gListL_lst, gTupL_lst, gListU_lst, gListU_tup, iOf_int, graphD, edD, optD, pvD, lvD, lvI, trD, Bool.xor_false, Bool.not_false, Bool.not_true]
    rw [← red_len (p := pf ps)] at L
    exact hR lv L.done
abbrev s_next_layer : Stmt := topS 5
theorem sc_next_layer : FnScope ["leaving", "layer", "best", "found", "node", "base", "index", "head", "cost", "total"] ["leaving", "layer", "best"] (defScope s_next_layer) := ⟨rfl, rfl, rfl, by decide +kernel, rfl, by decide +kernel, by decide +kernel⟩
theorem ok_next_layer {f : Addr} {fd : FuncData} (F : Fun K "next_layer" "next_layer" s_next_layer f fd) (T : Bi mg)  : FnOk P w K mg base CX0 1 f fd ["leaving", "layer", "best"] (spD K (.own 1) w_next_layer) := by
  refine Fun_okD F sc_next_layer (fun _ _ _ h => by obtain ⟨_, _, _, _, _, e, _, _, _, _, _, _⟩ := h; rw [e]; rfl) fun B cdv A outer s H E hr => ⟨_, (ds_cons (ds_setM 3 1 sc_next_layer.nd rfl (by first | exact Or.inl rfl | exact Or.inr rfl) (by decide) (dm_of (de_dnewK 0)))
(ds_cons (ds_forK PassesOwn.never rfl (de_v 1) (dg_name 4 sc_next_layer.nd rfl (by first | exact Or.inl rfl | exact Or.inr rfl) (by decide))
(ds_cons (ds_setM 5 0 sc_next_layer.nd rfl (by first | exact Or.inl rfl | exact Or.inr rfl) (by decide) (dm_of (de_at (de_dget (hr.u 1) (de_v 1) (de_v 4)) (de_int (m := .rd)))))
(ds_one (ds_for PassesOwn.never rfl (di_list (de_at (de_v 0) (de_v 4))) (dg_tup rfl (dgs_cons 6 sc_next_layer.nd rfl (by first | exact Or.inl rfl | exact Or.inr rfl) (by decide) (dgs_cons 7 sc_next_layer.nd rfl (by first | exact Or.inl rfl | exact Or.inr rfl) (by decide) (dgs_cons 8 sc_next_layer.nd rfl (by first | exact Or.inl rfl | exact Or.inr rfl) (by decide) dgs_nil))))
(ds_cons (ds_setM 9 0 sc_next_layer.nd rfl (by first | exact Or.inl rfl | exact Or.inr rfl) (by decide) (dm_of (de_add (m := .own 0) (de_v 5) (de_v 8))))
(ds_one (ds_if (dt_bool (dw_and (dt_lt (de_v 9) (de_at (de_v 2) (de_v 7))) (dw_and1 (dt_bool (dw_or (dt_dnotin (hr.u 1) (de_v 7) (de_var 3 1)) (dw_or1 (dt_lt (de_v 9) (de_at (de_dget (hr.u 1) (de_var 3 1) (de_v 7)) (de_int (m := .rd))))))))))
(ds_one (ds_putK 3 (hr.u 1) (dm_of (de_tup (da_cons (m := .own 0) (de_v 9) (da_cons (m := .own 0) (de_v 6) da_nil)))) (de_v 7)))
ds_nil)))))))
(ds_one (ds_retM (dm_take 3 1))))), fun ds R ⟨gs, n, lv, l, b, e, wf, n0, L, ok, hb, hR⟩ => ?_⟩
  subst e
  have PUT : ∀ (acc : Lay) (h i : Nat) (t : Int), stepF b acc (h, t, i) = stepF b acc (h, t, i) := fun _ _ _ _ => rfl
  try simp only [ownLst, ownObj, mTake, mOf, fAndV, fOrV, fArgs, fCons, fNil, fVar_0, fVar_s, fUn, fBin, fBool, startE, envOf, slot, gSeq, frzE, gComp, gCompD, wipe_nil, wipe_cons, List.map_cons, List.map_nil, List.cons_append, List.nil_append, List.append_nil, true_and, and_true, List.set_cons_zero, List.set_cons_succ, List.length_cons, List.length_nil, List.replicate_succ, List.replicate_zero, Nat.reduceSub, Nat.reduceAdd, Nat.reduceLT, DEnds.fn, bOf_bl, eq_self, reduceIte, Bool.false_eq_true, gNotV_bl, Bool.not_true, Bool.not_false, g2I_int, g2I0_int, g1I_int, gLen_lst, gLen_tup, gInt_int, gMax2_int, gMin2_int, gIsN_non, gIsN_obj, gIsN_dT, gIsN_dK, gIsN_int, xsOf_lst, tsOf_tup, gIx_t0, gIx_t1, gIx_l0, gIx_l1, gIx_l2, gEqA_int, gEqA_str, gEqA_bl, gTup, gLst, Option.isSome_some, Bool.false_xor, Bool.true_xor, gFor, gNegI, gEqA_no, gIsN_lst, gIsN_tup, gIx_t2, Bool.not_not, dnE, dnL, decide_true, decide_false, gListL_lst, gTupL_lst, gListU_lst, gListU_tup, iOf_int, graphD, edD, optD, pvD, lvD, lvI, trD, Bool.xor_false, Bool.not_false, Bool.not_true]
  refine ⟨_, keys_nT, ?_⟩
  refine forD_go (fun xs ρ => ∃ (l1 acc : Lay) (v4 v5 v6 v7 v8 v9 : Option (Nat × D)), xs = (l1.map (·.1)).map natD ∧ (∀ e ∈ l1, e ∈ l) ∧ StepOk n b acc ∧ (cands lv l1).foldl (stepF b) acc = nextL lv b l ∧
    ρ = [some (0, lvD lv), some (0, layD l), some (0, .lst (b.map .int)), some (1, layD acc), v4, v5, v6, v7, v8, v9]) ?_ ?_ _ _ ⟨l, [], none, none, none, none, none, none, rfl, fun e h => h, ⟨List.nodup_nil, fun x h => (by cases h)⟩, rfl, rfl⟩
  · rintro x r ρ ⟨l1, acc, v4, v5, v6, v7, v8, v9, ex, hsub, hacc, hf, rfl⟩ N hN
    cases l1 with
    | nil => cases ex
    | cons e l1 =>
      obtain ⟨u, t, o⟩ := e
      rw [List.map_cons, List.map_cons] at ex
      injection ex with ex1 ex2
      subst ex1
      have he : (u, t, o) ∈ l := hsub _ List.mem_cons_self
      have hu : u < n := ok.lt u (List.mem_map.mpr ⟨_, he, rfl⟩)
      refine ⟨_, rfl, ?_⟩
      try simp only [ownLst, ownObj, mTake, mOf, fAndV, fOrV, fArgs, fCons, fNil, fVar_0, fVar_s, fUn, fBin, fBool, startE, envOf, slot, gSeq, frzE, gComp, gCompD, wipe_nil, wipe_cons, List.map_cons, List.map_nil, List.cons_append, List.nil_append, List.append_nil, true_and, and_true, List.set_cons_zero, List.set_cons_succ, List.length_cons, List.length_nil, List.replicate_succ, List.replicate_zero, Nat.reduceSub, Nat.reduceAdd, Nat.reduceLT, DEnds.fn, bOf_bl, eq_self, reduceIte, Bool.false_eq_true, gNotV_bl, Bool.not_true, Bool.not_false, g2I_int, g2I0_int, g1I_int, gLen_lst, gLen_tup, gInt_int, gMax2_int, gMin2_int, gIsN_non, gIsN_obj, gIsN_dT, gIsN_dK, gIsN_int, xsOf_lst, tsOf_tup, gIx_t0, gIx_t1, gIx_l0, gIx_l1, gIx_l2, gEqA_int, gEqA_str, gEqA_bl, gTup, gLst, Option.isSome_some, Bool.false_xor, Bool.true_xor, gFor, gNegI, gEqA_no, gIsN_lst, gIsN_tup, gIx_t2, Bool.not_not, dnE, dnL, decide_true, decide_false, gListL_lst, gTupL_lst, gListU_lst, gListU_tup, iOf_int, graphD, edD, optD, pvD, lvD, lvI, trD, Bool.xor_false, Bool.not_false, Bool.not_true]
      refine dget_go (gt_of_mem ok.nd he) ?_
      try simp only [ownLst, ownObj, mTake, mOf, fAndV, fOrV, fArgs, fCons, fNil, fVar_0, fVar_s, fUn, fBin, fBool, startE, envOf, slot, gSeq, frzE, gComp, gCompD, wipe_nil, wipe_cons, List.map_cons, List.map_nil, List.cons_append, List.nil_append, List.append_nil, true_and, and_true, List.set_cons_zero, List.set_cons_succ, List.length_cons, List.length_nil, List.replicate_succ, List.replicate_zero, Nat.reduceSub, Nat.reduceAdd, Nat.reduceLT, DEnds.fn, bOf_bl, eq_self, reduceIte, Bool.false_eq_true, gNotV_bl, Bool.not_true, Bool.not_false, g2I_int, g2I0_int, g1I_int, gLen_lst, gLen_tup, gInt_int, gMax2_int, gMin2_int, gIsN_non, gIsN_obj, gIsN_dT, gIsN_dK, gIsN_int, xsOf_lst, tsOf_tup, gIx_t0, gIx_t1, gIx_l0, gIx_l1, gIx_l2, gEqA_int, gEqA_str, gEqA_bl, gTup, gLst, Option.isSome_some, Bool.false_xor, Bool.true_xor, gFor, gNegI, gEqA_no, gIsN_lst, gIsN_tup, gIx_t2, Bool.not_not, dnE, dnL, decide_true, decide_false, gListL_lst, gTupL_lst, gListU_lst, gListU_tup, iOf_int, graphD, edD, optD, pvD, lvD, lvI, trD, Bool.xor_false, Bool.not_false, Bool.not_true]
      refine gIx_nat (lv_get (by rw [L.len]; exact hu)) ?_
      try simp only [ownLst, ownObj, mTake, mOf, fAndV, fOrV, fArgs, fCons, fNil, fVar_0, fVar_s, fUn, fBin, fBool, startE, envOf, slot, gSeq, frzE, gComp, gCompD, wipe_nil, wipe_cons, List.map_cons, List.map_nil, List.cons_append, List.nil_append, List.append_nil, true_and, and_true, List.set_cons_zero, List.set_cons_succ, List.length_cons, List.length_nil, List.replicate_succ, List.replicate_zero, Nat.reduceSub, Nat.reduceAdd, Nat.reduceLT, DEnds.fn, bOf_bl, eq_self, reduceIte, Bool.false_eq_true, gNotV_bl, Bool.not_true, Bool.not_false, g2I_int, g2I0_int, g1I_int, gLen_lst, gLen_tup, gInt_int, gMax2_int, gMin2_int, gIsN_non, gIsN_obj, gIsN_dT, gIsN_dK, gIsN_int, xsOf_lst, tsOf_tup, gIx_t0, gIx_t1, gIx_l0, gIx_l1, gIx_l2, gEqA_int, gEqA_str, gEqA_bl, gTup, gLst, Option.isSome_some, Bool.false_xor, Bool.true_xor, gFor, gNegI, gEqA_no, gIsN_lst, gIsN_tup, gIx_t2, Bool.not_not, dnE, dnL, decide_true, decide_false, gListL_lst, gTupL_lst, gListU_lst, gListU_tup, iOf_int, graphD, edD, optD, pvD, lvD, lvI, trD, Bool.xor_false, Bool.not_false, Bool.not_true]
      have hf' : (cands lv l1).foldl (stepF b) ((candsAt lv u t).foldl (stepF b) acc) = nextL lv b l := by
        rw [← hf, ← List.foldl_append]; rfl
      refine forD_go (fun xs ρ => ∃ (qs : List (Nat × Nat × Int)) (ac : Lay) (v6 v7 v8 v9 : Option (Nat × D)), xs = qs.map trD ∧ (∀ q ∈ qs, q ∈ lv.getD u []) ∧ StepOk n b ac ∧ (qs.map fun q => (q.2.1, t + q.2.2, q.1)).foldl (stepF b) ac = (candsAt lv u t).foldl (stepF b) acc ∧
        ρ = [some (0, lvD lv), some (0, layD l), some (0, .lst (b.map .int)), some (1, layD ac), some (0, natD u), some (0, .int t), v6, v7, v8, v9]) ?_ ?_ _ _ ⟨lv.getD u [], acc, _, _, _, _, rfl, fun q h => h, hacc, rfl, rfl⟩
      · rintro x r ρ ⟨qs, ac, w6, w7, w8, w9, ey, hq, ha, hg, rfl⟩ N2 hN2
        cases qs with
        | nil => cases ey
        | cons q qs =>
          obtain ⟨i, h, c⟩ := q
          rw [List.map_cons] at ey
          injection ey with ey1 ey2
          subst ey1
          have hh : h < n := L.lt wf hu (hq _ List.mem_cons_self)
          have hq' : ∀ q ∈ qs, q ∈ lv.getD u [] := fun q z => hq q (List.mem_cons_of_mem _ z)
          rw [List.map_cons, List.foldl_cons] at hg
          have gb := ps_get (ps := b) (v := h) (by rw [hb]; exact hh)
          refine ⟨_, rfl, ?_⟩
          try simp only [ownLst, ownObj, mTake, mOf, fAndV, fOrV, fArgs, fCons, fNil, fVar_0, fVar_s, fUn, fBin, fBool, startE, envOf, slot, gSeq, frzE, gComp, gCompD, wipe_nil, wipe_cons, List.map_cons, List.map_nil, List.cons_append, List.nil_append, List.append_nil, true_and, and_true, List.set_cons_zero, List.set_cons_succ, List.length_cons, List.length_nil, List.replicate_succ, List.replicate_zero, Nat.reduceSub, Nat.reduceAdd, Nat.reduceLT, DEnds.fn, bOf_bl, eq_self, reduceIte, Bool.false_eq_true, gNotV_bl, Bool.not_true, Bool.not_false, g2I_int, g2I0_int, g1I_int, gLen_lst, gLen_tup, gInt_int, gMax2_int, gMin2_int, gIsN_non, gIsN_obj, gIsN_dT, gIsN_dK, gIsN_int, xsOf_lst, tsOf_tup, gIx_t0, gIx_t1, gIx_l0, gIx_l1, gIx_l2, gEqA_int, gEqA_str, gEqA_bl, gTup, gLst, Option.isSome_some, Bool.false_xor, Bool.true_xor, gFor, gNegI, gEqA_no, gIsN_lst, gIsN_tup, gIx_t2, Bool.not_not, dnE, dnL, decide_true, decide_false, gListL_lst, gTupL_lst, gListU_lst, gListU_tup, iOf_int, graphD, edD, optD, pvD, lvD, lvI, trD, Bool.xor_false, Bool.not_false, Bool.not_true]
          refine gIx_nat gb ?_
          try simp only [ownLst, ownObj, mTake, mOf, fAndV, fOrV, fArgs, fCons, fNil, fVar_0, fVar_s, fUn, fBin, fBool, startE, envOf, slot, gSeq, frzE, gComp, gCompD, wipe_nil, wipe_cons, List.map_cons, List.map_nil, List.cons_append, List.nil_append, List.append_nil, true_and, and_true, List.set_cons_zero, List.set_cons_succ, List.length_cons, List.length_nil, List.replicate_succ, List.replicate_zero, Nat.reduceSub, Nat.reduceAdd, Nat.reduceLT, DEnds.fn, bOf_bl, eq_self, reduceIte, Bool.false_eq_true, gNotV_bl, Bool.not_true, Bool.not_false, g2I_int, g2I0_int, g1I_int, gLen_lst, gLen_tup, gInt_int, gMax2_int, gMin2_int, gIsN_non, gIsN_obj, gIsN_dT, gIsN_dK, gIsN_int, xsOf_lst, tsOf_tup, gIx_t0, gIx_t1, gIx_l0, gIx_l1, gIx_l2, gEqA_int, gEqA_str, gEqA_bl, gTup, gLst, Option.isSome_some, Bool.false_xor, Bool.true_xor, gFor, gNegI, gEqA_no, gIsN_lst, gIsN_tup, gIx_t2, Bool.not_not, dnE, dnL, decide_true, decide_false, gListL_lst, gTupL_lst, gListU_lst, gListU_tup, iOf_int, graphD, edD, optD, pvD, lvD, lvI, trD, Bool.xor_false, Bool.not_false, Bool.not_true]
          have put : stepF b ac (h, t + c, i) = ins ac h (t + c, some i) → 2 ≤ sizeLine ∧ (ownDK [some (0, lvD lv), some (0, layD l), some (0, .lst (b.map .int)), some (1, layD ac), some (0, natD u), some (0, .int t), some (0, natD i), some (0, natD h), some (0, .int c), some (0, .int (t + c))] 3 0 fun _ => True) ∧
              ∃ k, keyOf (natD h) = some k ∧ ownDK [some (0, lvD lv), some (0, layD l), some (0, .lst (b.map .int)), some (1, layD ac), some (0, natD u), some (0, .int t), some (0, natD i), some (0, natD h), some (0, .int c), some (0, .int (t + c))] 3 0 fun ds => ds.length < sizeLine ∧ N2 [some (0, lvD lv), some (0, layD l), some (0, .lst (b.map .int)), some (1, .dK (putD ds k (.tup [.int (t + c), natD i]))), some (0, natD u), some (0, .int t), some (0, natD i), some (0, natD h), some (0, .int c), some (0, .int (t + c))] := fun es => by
            refine ⟨by decide, ownDK_nT rfl trivial, _, rfl, ownDK_nT (f := pvD) rfl ⟨?_, ?_⟩⟩
            · rw [List.length_map, szL]
              have := ha.len
              omega
            refine hN2 _ ⟨qs, ins ac h (t + c, some i), some (0, natD i), some (0, natD h), some (0, .int c), some (0, .int (t + c)), ey2, hq', ?_, by rw [← es]; exact hg, ?_⟩
            · rw [← es]; exact stepF_ok ha hh
            · rw [show layD (ins ac h (t + c, some i)) = _ from nT_ins]; rfl
          by_cases h1 : t + c < pf b h
          · rw [decide_eq_true h1]
            try simp only [ownLst, ownObj, mTake, mOf, fAndV, fOrV, fArgs, fCons, fNil, fVar_0, fVar_s, fUn, fBin, fBool, startE, envOf, slot, gSeq, frzE, gComp, gCompD, wipe_nil, wipe_cons, List.map_cons, List.map_nil, List.cons_append, List.nil_append, List.append_nil, true_and, and_true, List.set_cons_zero, List.set_cons_succ, List.length_cons, List.length_nil, List.replicate_succ, List.replicate_zero, Nat.reduceSub, Nat.reduceAdd, Nat.reduceLT, DEnds.fn, bOf_bl, eq_self, reduceIte, Bool.false_eq_true, gNotV_bl, Bool.not_true, Bool.not_false, g2I_int, g2I0_int, g1I_int, gLen_lst, gLen_tup, gInt_int, gMax2_int, gMin2_int, gIsN_non, gIsN_obj, gIsN_dT, gIsN_dK, gIsN_int, xsOf_lst, tsOf_tup, gIx_t0, gIx_t1, gIx_l0, gIx_l1, gIx_l2, gEqA_int, gEqA_str, gEqA_bl, gTup, gLst, Option.isSome_some, Bool.false_xor, Bool.true_xor, gFor, gNegI, gEqA_no, gIsN_lst, gIsN_tup, gIx_t2, Bool.not_not, dnE, dnL, decide_true, decide_false, gListL_lst, gTupL_lst, gListU_lst, gListU_tup, iOf_int, graphD, edD, optD, pvD, lvD, lvI, trD, Bool.xor_false, Bool.not_false, Bool.not_true]
            refine din_go ?_
            rcases g : gt ac h with _ | x
            · try simp only [ownLst, ownObj, mTake, mOf, fAndV, fOrV, fArgs, fCons, fNil, fVar_0, fVar_s, fUn, fBin, fBool, startE, envOf, slot, gSeq, frzE, gComp, gCompD, wipe_nil, wipe_cons, List.map_cons, List.map_nil, List.cons_append, List.nil_append, List.append_nil, true_and, and_true, List.set_cons_zero, List.set_cons_succ, List.length_cons, List.length_nil, List.replicate_succ, List.replicate_zero, Nat.reduceSub, Nat.reduceAdd, Nat.reduceLT, DEnds.fn, bOf_bl, eq_self, reduceIte, Bool.false_eq_true, gNotV_bl, Bool.not_true, Bool.not_false, g2I_int, g2I0_int, g1I_int, gLen_lst, gLen_tup, gInt_int, gMax2_int, gMin2_int, gIsN_non, gIsN_obj, gIsN_dT, gIsN_dK, gIsN_int, xsOf_lst, tsOf_tup, gIx_t0, gIx_t1, gIx_l0, gIx_l1, gIx_l2, gEqA_int, gEqA_str, gEqA_bl, gTup, gLst, Option.isSome_some, Bool.false_xor, Bool.true_xor, gFor, gNegI, gEqA_no, gIsN_lst, gIsN_tup, gIx_t2, Bool.not_not, dnE, dnL, decide_true, decide_false, gListL_lst, gTupL_lst, gListU_lst, gListU_tup, iOf_int, graphD, edD, optD, pvD, lvD, lvI, trD, Bool.xor_false, Bool.not_false, Bool.not_true]
              exact put (stepF_a h1 g)
            · try simp only [ownLst, ownObj, mTake, mOf, fAndV, fOrV, fArgs, fCons, fNil, fVar_0, fVar_s, fUn, fBin, fBool, startE, envOf, slot, gSeq, frzE, gComp, gCompD, wipe_nil, wipe_cons, List.map_cons, List.map_nil, List.cons_append, List.nil_append, List.append_nil, true_and, and_true, List.set_cons_zero, List.set_cons_succ, List.length_cons, List.length_nil, List.replicate_succ, List.replicate_zero, Nat.reduceSub, Nat.reduceAdd, Nat.reduceLT, DEnds.fn, bOf_bl, eq_self, reduceIte, Bool.false_eq_true, gNotV_bl, Bool.not_true, Bool.not_false, g2I_int, g2I0_int, g1I_int, gLen_lst, gLen_tup, gInt_int, gMax2_int, gMin2_int, gIsN_non, gIsN_obj, gIsN_dT, gIsN_dK, gIsN_int, xsOf_lst, tsOf_tup, gIx_t0, gIx_t1, gIx_l0, gIx_l1, gIx_l2, gEqA_int, gEqA_str, gEqA_bl, gTup, gLst, Option.isSome_some, Bool.false_xor, Bool.true_xor, gFor, gNegI, gEqA_no, gIsN_lst, gIsN_tup, gIx_t2, Bool.not_not, dnE, dnL, decide_true, decide_false, gListL_lst, gTupL_lst, gListU_lst, gListU_tup, iOf_int, graphD, edD, optD, pvD, lvD, lvI, trD, Bool.xor_false, Bool.not_false, Bool.not_true]
              refine dget_go g ?_
              try simp only [ownLst, ownObj, mTake, mOf, fAndV, fOrV, fArgs, fCons, fNil, fVar_0, fVar_s, fUn, fBin, fBool, startE, envOf, slot, gSeq, frzE, gComp, gCompD, wipe_nil, wipe_cons, List.map_cons, List.map_nil, List.cons_append, List.nil_append, List.append_nil, true_and, and_true, List.set_cons_zero, List.set_cons_succ, List.length_cons, List.length_nil, List.replicate_succ, List.replicate_zero, Nat.reduceSub, Nat.reduceAdd, Nat.reduceLT, DEnds.fn, bOf_bl, eq_self, reduceIte, Bool.false_eq_true, gNotV_bl, Bool.not_true, Bool.not_false, g2I_int, g2I0_int, g1I_int, gLen_lst, gLen_tup, gInt_int, gMax2_int, gMin2_int, gIsN_non, gIsN_obj, gIsN_dT, gIsN_dK, gIsN_int, xsOf_lst, tsOf_tup, gIx_t0, gIx_t1, gIx_l0, gIx_l1, gIx_l2, gEqA_int, gEqA_str, gEqA_bl, gTup, gLst, Option.isSome_some, Bool.false_xor, Bool.true_xor, gFor, gNegI, gEqA_no, gIsN_lst, gIsN_tup, gIx_t2, Bool.not_not, dnE, dnL, decide_true, decide_false, gListL_lst, gTupL_lst, gListU_lst, gListU_tup, iOf_int, graphD, edD, optD, pvD, lvD, lvI, trD, Bool.xor_false, Bool.not_false, Bool.not_true]
              by_cases h3 : t + c < x.1
              · rw [decide_eq_true h3]
                try simp only [ownLst, ownObj, mTake, mOf, fAndV, fOrV, fArgs, fCons, fNil, fVar_0, fVar_s, fUn, fBin, fBool, startE, envOf, slot, gSeq, frzE, gComp, gCompD, wipe_nil, wipe_cons, List.map_cons, List.map_nil, List.cons_append, List.nil_append, List.append_nil, true_and, and_true, List.set_cons_zero, List.set_cons_succ, List.length_cons, List.length_nil, List.replicate_succ, List.replicate_zero, Nat.reduceSub, Nat.reduceAdd, Nat.reduceLT, DEnds.fn, bOf_bl, eq_self, reduceIte, Bool.false_eq_true, gNotV_bl, Bool.not_true, Bool.not_false, g2I_int, g2I0_int, g1I_int, gLen_lst, gLen_tup, gInt_int, gMax2_int, gMin2_int, gIsN_non, gIsN_obj, gIsN_dT, gIsN_dK, gIsN_int, xsOf_lst, tsOf_tup, gIx_t0, gIx_t1, gIx_l0, gIx_l1, gIx_l2, gEqA_int, gEqA_str, gEqA_bl, gTup, gLst, Option.isSome_some, Bool.false_xor, Bool.true_xor, gFor, gNegI, gEqA_no, gIsN_lst, gIsN_tup, gIx_t2, Bool.not_not, dnE, dnL, decide_true, decide_false, gListL_lst, gTupL_lst, gListU_lst, gListU_tup, iOf_int, graphD, edD, optD, pvD, lvD, lvI, trD, Bool.xor_false, Bool.not_false, Bool.not_true]
                exact put (stepF_b h1 g h3)
              · rw [decide_eq_false h3]
                try simp only [ownLst, ownObj, mTake, mOf, fAndV, fOrV, fArgs, fCons, fNil, fVar_0, fVar_s, fUn, fBin, fBool, startE, envOf, slot, gSeq, frzE, gComp, gCompD, wipe_nil, wipe_cons, List.map_cons, List.map_nil, List.cons_append, List.nil_append, List.append_nil, true_and, and_true, List.set_cons_zero, List.set_cons_succ, List.length_cons, List.length_nil, List.replicate_succ, List.replicate_zero, Nat.reduceSub, Nat.reduceAdd, Nat.reduceLT, DEnds.fn, bOf_bl, eq_self, reduceIte, Bool.false_eq_true, gNotV_bl, Bool.not_true, Bool.not_false, g2I_int, g2I0_int, g1I_int, gLen_lst, gLen_tup, gInt_int, gMax2_int, gMin2_int, gIsN_non, gIsN_obj, gIsN_dT, gIsN_dK, gIsN_int, xsOf_lst, tsOf_tup, gIx_t0, gIx_t1, gIx_l0, gIx_l1, gIx_l2, gEqA_int, gEqA_str, gEqA_bl, gTup, gLst, Option.isSome_some, Bool.false_xor, Bool.true_xor, gFor, gNegI, gEqA_no, gIsN_lst, gIsN_tup, gIx_t2, Bool.not_not, dnE, dnL, decide_true, decide_false, gListL_lst, gTupL_lst, gListU_lst, gListU_tup, iOf_int, graphD, edD, optD, pvD, lvD, lvI, trD, Bool.xor_false, Bool.not_false, Bool.not_true]
                exact hN2 _ ⟨qs, ac, _, _, _, _, ey2, hq', ha, by rw [← stepF_d (b := b) (i := i) g h3]; exact hg, rfl⟩
          · rw [decide_eq_false h1]
            try simp only [ownLst, ownObj, mTake, mOf, fAndV, fOrV, fArgs, fCons, fNil, fVar_0, fVar_s, fUn, fBin, fBool, startE, envOf, slot, gSeq, frzE, gComp, gCompD, wipe_nil, wipe_cons, List.map_cons, List.map_nil, List.cons_append, List.nil_append, List.append_nil, true_and, and_true, List.set_cons_zero, List.set_cons_succ, List.length_cons, List.length_nil, List.replicate_succ, List.replicate_zero, Nat.reduceSub, Nat.reduceAdd, Nat.reduceLT, DEnds.fn, bOf_bl, eq_self, reduceIte, Bool.false_eq_true, gNotV_bl, Bool.not_true, Bool.not_false, g2I_int, g2I0_int, g1I_int, gLen_lst, gLen_tup, gInt_int, gMax2_int, gMin2_int, gIsN_non, gIsN_obj, gIsN_dT, gIsN_dK, gIsN_int, xsOf_lst, tsOf_tup, gIx_t0, gIx_t1, gIx_l0, gIx_l1, gIx_l2, gEqA_int, gEqA_str, gEqA_bl, gTup, gLst, Option.isSome_some, Bool.false_xor, Bool.true_xor, gFor, gNegI, gEqA_no, gIsN_lst, gIsN_tup, gIx_t2, Bool.not_not, dnE, dnL, decide_true, decide_false, gListL_lst, gTupL_lst, gListU_lst, gListU_tup, iOf_int, graphD, edD, optD, pvD, lvD, lvI, trD, Bool.xor_false, Bool.not_false, Bool.not_true]
            exact hN2 _ ⟨qs, ac, _, _, _, _, ey2, hq', ha, by rw [← stepF_c (acc := ac) (i := i) h1]; exact hg, rfl⟩
      · rintro ρ ⟨qs, ac, w6, w7, w8, w9, ey, hq, ha, hg, rfl⟩
        cases qs with
        | cons q qs => cases ey
        | nil =>
          have hg : ac = (candsAt lv u t).foldl (stepF b) acc := hg
          exact hN _ ⟨l1, ac, _, _, _, _, _, _, ex2, fun e z => hsub e (List.mem_cons_of_mem _ z), ha, by rw [hg]; exact hf', rfl⟩
  · rintro ρ ⟨l1, acc, v4, v5, v6, v7, v8, v9, ex, hsub, hacc, hf, rfl⟩
    cases l1 with
    | cons e l1 => cases ex
    | nil =>
      have hf : acc = nextL lv b l := hf
      try simp only [ownLst, ownObj, mTake, mOf, fAndV, fOrV, fArgs, fCons, fNil, fVar_0, fVar_s, fUn, fBin, fBool, startE, envOf, slot, gSeq, frzE, gComp, gCompD, wipe_nil, wipe_cons, List.map_cons, List.map_nil, List.cons_append, List.nil_append, List.append_nil, true_and, and_true, List.set_cons_zero, List.set_cons_succ, List.length_cons, List.length_nil, List.replicate_succ, List.replicate_zero, Nat.reduceSub, Nat.reduceAdd, Nat.reduceLT, DEnds.fn, bOf_bl, eq_self, reduceIte, Bool.false_eq_true, gNotV_bl, Bool.not_true, Bool.not_false, g2I_int, g2I0_int, g1I_int, gLen_lst, gLen_tup, gInt_int, gMax2_int, gMin2_int, gIsN_non, gIsN_obj, gIsN_dT, gIsN_dK, gIsN_int, xsOf_lst, tsOf_tup, gIx_t0, gIx_t1, gIx_l0, gIx_l1, gIx_l2, gEqA_int, gEqA_str, gEqA_bl, gTup, gLst, Option.isSome_some, Bool.false_xor, Bool.true_xor, gFor, gNegI, gEqA_no, gIsN_lst, gIsN_tup, gIx_t2, Bool.not_not, dnE, dnL, decide_true, decide_false, gListL_lst, gTupL_lst, gListU_lst, gListU_tup, iOf_int, graphD, edD, optD, pvD, lvD, lvI, trD, Bool.xor_false, Bool.not_false, Bool.not_true]
      rw [hf]
      exact hR
abbrev s_closed_walk : Stmt := topS 6
theorem sc_closed_walk : FnScope ["edges", "leaving", "start", "size", "best", "layers", "k", "layer", "node", "walk"] ["edges", "leaving", "start", "size"] (defScope s_closed_walk) := ⟨rfl, rfl, rfl, by decide +kernel, rfl, by decide +kernel, by decide +kernel⟩
theorem ok_closed_walk {f : Addr} {fd : FuncData} (F : Fun K "closed_walk" "closed_walk" s_closed_walk f fd) (T : Bi mg) (c_next_layer : Cal P w K mg base "next_layer" 1 ["leaving", "layer", "best"] (.own 1) [] w_next_layer) : FnOk P w K mg base CX0 2 f fd ["edges", "leaving", "start", "size"] (spD K (.own 1) w_closed_walk) := by
  refine Fun_okD F sc_closed_walk (fun _ _ _ h => by obtain ⟨_, _, _, _, _, _, _, e, _, _, _, _, _, _, _, _⟩ := h; rw [e]; rfl) fun B cdv A outer s H E hr => ⟨_, (ds_cons (ds_setM 4 1 sc_closed_walk.nd rfl (by first | exact Or.inl rfl | exact Or.inr rfl) (by decide) (dm_of (de_rep (de_frz (de_lst 0 (da_cons (m := .own 0) (de_int (m := .own 0)) da_nil))) (de_len (m := .rd) T.len_ (de_v 1)))))
(ds_cons (ds_setM 5 1 sc_closed_walk.nd rfl (by first | exact Or.inl rfl | exact Or.inr rfl) (by decide) (dm_of (de_lst 0 (da_cons (m := .own 0) (de_frz (de_disp1 (de_v 2) (de_tup (da_cons (m := .own 0) (de_int (m := .own 0)) (da_cons (m := .own 0) (de_non (m := .own 0)) da_nil))))) da_nil))))
(ds_cons (ds_for PassesOwn.never rfl (di_range T.range_ (de_v 3)) (dg_name 6 sc_closed_walk.nd rfl (by first | exact Or.inl rfl | exact Or.inr rfl) (by decide))
(ds_cons (ds_setM 7 0 sc_closed_walk.nd rfl (by first | exact Or.inl rfl | exact Or.inr rfl) (by decide) (dm_of (de_frz (de_CR (n := 1) c_next_layer hr (da_cons (m := .rd) (de_rd (de_v 1)) (da_cons (m := .rd) (de_rd (de_at (de_var 5 1) (de_v 6))) (da_cons (m := .rd) (de_rd (de_var 4 1)) da_nil)))))))
(ds_cons (ds_forK PassesOwn.never rfl (de_v 7) (dg_name 8 sc_closed_walk.nd rfl (by first | exact Or.inl rfl | exact Or.inr rfl) (by decide))
(ds_one (ds_setL 4 0 (dm_of (de_at (de_dget (hr.u 1) (de_v 7) (de_v 8)) (de_int (m := .rd)))) (de_v 8))))
(ds_one (ds_exprM (m := .own 0) (dm_append 5 0 (dm_of (de_v 7))))))))
(ds_cons (ds_frz 5 (ds_setM 9 1 sc_closed_walk.nd rfl (by first | exact Or.inl rfl | exact Or.inr rfl) (by decide) (dm_of (de_lst 0 da_nil))))
(ds_cons (ds_setM 8 0 sc_closed_walk.nd rfl (by first | exact Or.inl rfl | exact Or.inr rfl) (by decide) (dm_of (de_v 2)))
(ds_cons (ds_for PassesOwn.never rfl (di_range T.range_ (de_v 3)) (dg_name 6 sc_closed_walk.nd rfl (by first | exact Or.inl rfl | exact Or.inr rfl) (by decide))
(ds_cons (ds_exprM (m := .own 0) (dm_append 9 0 (dm_of (de_at (de_dget (hr.u 1) (de_at (de_v 5) (de_sub (m := .rd) (de_v 3) (de_v 6))) (de_v 8)) (de_int (m := .rd))))))
(ds_one (ds_setM 8 0 sc_closed_walk.nd rfl (by first | exact Or.inl rfl | exact Or.inr rfl) (by decide) (dm_of (de_at (de_at (de_v 0) (de_at (de_var 9 1) (de_neg (m := .rd) (de_int (m := .rd))))) (de_int (m := .rd))))))))
(ds_one (ds_frz 9 (ds_retM (dm_of (de_revL (de_v 9)))))))))))), fun ds R ⟨es, p, n, ed, lv, s, size, e, hs, ok, L, hsn, h1, h2, hm, hR⟩ => ?_⟩
  subst e
  have n1 := ok.n0
  have gw : Wf (red p es) n := red_wf ok.wf
  try simp only [ownLst, ownObj, mTake, mOf, fAndV, fOrV, fArgs, fCons, fNil, fVar_0, fVar_s, fUn, fBin, fBool, startE, envOf, slot, gSeq, frzE, gComp, gCompD, wipe_nil, wipe_cons, List.map_cons, List.map_nil, List.cons_append, List.nil_append, List.append_nil, true_and, and_true, List.set_cons_zero, List.set_cons_succ, List.length_cons, List.length_nil, List.replicate_succ, List.replicate_zero, Nat.reduceSub, Nat.reduceAdd, Nat.reduceLT, DEnds.fn, bOf_bl, eq_self, reduceIte, Bool.false_eq_true, gNotV_bl, Bool.not_true, Bool.not_false, g2I_int, g2I0_int, g1I_int, gLen_lst, gLen_tup, gInt_int, gMax2_int, gMin2_int, gIsN_non, gIsN_obj, gIsN_dT, gIsN_dK, gIsN_int, xsOf_lst, tsOf_tup, gIx_t0, gIx_t1, gIx_l0, gIx_l1, gIx_l2, gEqA_int, gEqA_str, gEqA_bl, gTup, gLst, Option.isSome_some, Bool.false_xor, Bool.true_xor, gFor, gNegI, gEqA_no, gIsN_lst, gIsN_tup, gIx_t2, Bool.not_not, dnE, dnL, decide_true, decide_false, gListL_lst, gTupL_lst, gListU_lst, gListU_tup, iOf_int, graphD, edD, optD, pvD, lvD, lvI, trD, Bool.xor_false, Bool.not_false, Bool.not_true]
  rw [List.length_map, L.len]
  refine ⟨by decide, rep_go (by rw [szL]; omega) ⟨by decide, _, rfl, by decide, rng_go (by omega) ?_⟩⟩
  rw [rep_ints]
  obtain ⟨T, o0, hT⟩ : ∃ T o, gt (lev lv n s size).1 s = some (T, o) := by
    cases q : gt (lev lv n s size).1 s with
    | none => exact absurd hm (gt_none.mp q)
    | some t => exact ⟨t.1, t.2, rfl⟩
  have hT0 : T < 0 := (lev_ok gw L hsn size).neg h1 s T o0 hT
  refine forD_go (fun xs ρ => ∃ (k m : Nat) (v6 v7 v8 : Option (Nat × D)), k + m = size ∧ xs = (List.range' k m).map natD ∧
    ρ = [some (0, ed), some (0, lvD lv), some (0, natD s), some (0, natD size), some (1, .lst ((lev lv n s k).2.map .int)), some (1, .lst (layersD lv n s k)), v6, v7, v8, none]) ?_ ?_ _ _ ⟨0, size, none, none, none, by omega, rfl, rfl⟩
  · rintro x r ρ ⟨k, m, v6, v7, v8, hk, ex, rfl⟩ N hN
    cases m with
    | zero => cases ex
    | succ m =>
      rw [List.range'_succ, List.map_cons] at ex
      injection ex with ex1 ex2
      subst ex1
      have I := lev_ok gw L hsn k
      have I2 := lev_ok gw L hsn (k + 1)
      refine ⟨_, rfl, ?_⟩
      try simp only [ownLst, ownObj, mTake, mOf, fAndV, fOrV, fArgs, fCons, fNil, fVar_0, fVar_s, fUn, fBin, fBool, startE, envOf, slot, gSeq, frzE, gComp, gCompD, wipe_nil, wipe_cons, List.map_cons, List.map_nil, List.cons_append, List.nil_append, List.append_nil, true_and, and_true, List.set_cons_zero, List.set_cons_succ, List.length_cons, List.length_nil, List.replicate_succ, List.replicate_zero, Nat.reduceSub, Nat.reduceAdd, Nat.reduceLT, DEnds.fn, bOf_bl, eq_self, reduceIte, Bool.false_eq_true, gNotV_bl, Bool.not_true, Bool.not_false, g2I_int, g2I0_int, g1I_int, gLen_lst, gLen_tup, gInt_int, gMax2_int, gMin2_int, gIsN_non, gIsN_obj, gIsN_dT, gIsN_dK, gIsN_int, xsOf_lst, tsOf_tup, gIx_t0, gIx_t1, gIx_l0, gIx_l1, gIx_l2, gEqA_int, gEqA_str, gEqA_bl, gTup, gLst, Option.isSome_some, Bool.false_xor, Bool.true_xor, gFor, gNegI, gEqA_no, gIsN_lst, gIsN_tup, gIx_t2, Bool.not_not, dnE, dnL, decide_true, decide_false, gListL_lst, gTupL_lst, gListU_lst, gListU_tup, iOf_int, graphD, edD, optD, pvD, lvD, lvI, trD, Bool.xor_false, Bool.not_false, Bool.not_true]
      refine gIx_nat (layersD_get (Nat.le_refl k)) ?_
      refine ⟨red p es, n, lv, (lev lv n s k).1, (lev lv n s k).2, rfl, gw, n1, L, ⟨I.nd, I.lt⟩, I.bl, flat_lay _, ?_⟩
      try simp only [ownLst, ownObj, mTake, mOf, fAndV, fOrV, fArgs, fCons, fNil, fVar_0, fVar_s, fUn, fBin, fBool, startE, envOf, slot, gSeq, frzE, gComp, gCompD, wipe_nil, wipe_cons, List.map_cons, List.map_nil, List.cons_append, List.nil_append, List.append_nil, true_and, and_true, List.set_cons_zero, List.set_cons_succ, List.length_cons, List.length_nil, List.replicate_succ, List.replicate_zero, Nat.reduceSub, Nat.reduceAdd, Nat.reduceLT, DEnds.fn, bOf_bl, eq_self, reduceIte, Bool.false_eq_true, gNotV_bl, Bool.not_true, Bool.not_false, g2I_int, g2I0_int, g1I_int, gLen_lst, gLen_tup, gInt_int, gMax2_int, gMin2_int, gIsN_non, gIsN_obj, gIsN_dT, gIsN_dK, gIsN_int, xsOf_lst, tsOf_tup, gIx_t0, gIx_t1, gIx_l0, gIx_l1, gIx_l2, gEqA_int, gEqA_str, gEqA_bl, gTup, gLst, Option.isSome_some, Bool.false_xor, Bool.true_xor, gFor, gNegI, gEqA_no, gIsN_lst, gIsN_tup, gIx_t2, Bool.not_not, dnE, dnL, decide_true, decide_false, gListL_lst, gTupL_lst, gListU_lst, gListU_tup, iOf_int, graphD, edD, optD, pvD, lvD, lvI, trD, Bool.xor_false, Bool.not_false, Bool.not_true]
      refine ⟨_, keys_nT, ?_⟩
      refine forD_go (fun xs ρ => ∃ (l1 : Lay) (b' : List Int) (v8 : Option (Nat × D)), xs = (l1.map (·.1)).map natD ∧ (∀ e ∈ l1, e ∈ (lev lv n s (k + 1)).1) ∧ b'.length = n ∧ updB b' l1 = (lev lv n s (k + 1)).2 ∧
        ρ = [some (0, ed), some (0, lvD lv), some (0, natD s), some (0, natD size), some (1, .lst (b'.map .int)), some (1, .lst (layersD lv n s k)), some (0, natD k), some (0, layD (lev lv n s (k + 1)).1), v8, none]) ?_ ?_ _ _ ⟨(lev lv n s (k + 1)).1, (lev lv n s k).2, _, rfl, fun e h => h, I.bl, rfl, rfl⟩
      · rintro x r ρ ⟨l1, b', w8, ey, hsub, hb, hu, rfl⟩ N2 hN2
        cases l1 with
        | nil => cases ey
        | cons e l1 =>
          obtain ⟨u, t, o⟩ := e
          rw [List.map_cons, List.map_cons] at ey
          injection ey with ey1 ey2
          subst ey1
          have he := hsub _ List.mem_cons_self
          have hun : u < n := I2.lt u (List.mem_map.mpr ⟨_, he, rfl⟩)
          refine ⟨_, rfl, ?_⟩
          try simp only [ownLst, ownObj, mTake, mOf, fAndV, fOrV, fArgs, fCons, fNil, fVar_0, fVar_s, fUn, fBin, fBool, startE, envOf, slot, gSeq, frzE, gComp, gCompD, wipe_nil, wipe_cons, List.map_cons, List.map_nil, List.cons_append, List.nil_append, List.append_nil, true_and, and_true, List.set_cons_zero, List.set_cons_succ, List.length_cons, List.length_nil, List.replicate_succ, List.replicate_zero, Nat.reduceSub, Nat.reduceAdd, Nat.reduceLT, DEnds.fn, bOf_bl, eq_self, reduceIte, Bool.false_eq_true, gNotV_bl, Bool.not_true, Bool.not_false, g2I_int, g2I0_int, g1I_int, gLen_lst, gLen_tup, gInt_int, gMax2_int, gMin2_int, gIsN_non, gIsN_obj, gIsN_dT, gIsN_dK, gIsN_int, xsOf_lst, tsOf_tup, gIx_t0, gIx_t1, gIx_l0, gIx_l1, gIx_l2, gEqA_int, gEqA_str, gEqA_bl, gTup, gLst, Option.isSome_some, Bool.false_xor, Bool.true_xor, gFor, gNegI, gEqA_no, gIsN_lst, gIsN_tup, gIx_t2, Bool.not_not, dnE, dnL, decide_true, decide_false, gListL_lst, gTupL_lst, gListU_lst, gListU_tup, iOf_int, graphD, edD, optD, pvD, lvD, lvI, trD, Bool.xor_false, Bool.not_false, Bool.not_true]
          refine dget_go (gt_of_mem I2.nd he) ?_
          try simp only [ownLst, ownObj, mTake, mOf, fAndV, fOrV, fArgs, fCons, fNil, fVar_0, fVar_s, fUn, fBin, fBool, startE, envOf, slot, gSeq, frzE, gComp, gCompD, wipe_nil, wipe_cons, List.map_cons, List.map_nil, List.cons_append, List.nil_append, List.append_nil, true_and, and_true, List.set_cons_zero, List.set_cons_succ, List.length_cons, List.length_nil, List.replicate_succ, List.replicate_zero, Nat.reduceSub, Nat.reduceAdd, Nat.reduceLT, DEnds.fn, bOf_bl, eq_self, reduceIte, Bool.false_eq_true, gNotV_bl, Bool.not_true, Bool.not_false, g2I_int, g2I0_int, g1I_int, gLen_lst, gLen_tup, gInt_int, gMax2_int, gMin2_int, gIsN_non, gIsN_obj, gIsN_dT, gIsN_dK, gIsN_int, xsOf_lst, tsOf_tup, gIx_t0, gIx_t1, gIx_l0, gIx_l1, gIx_l2, gEqA_int, gEqA_str, gEqA_bl, gTup, gLst, Option.isSome_some, Bool.false_xor, Bool.true_xor, gFor, gNegI, gEqA_no, gIsN_lst, gIsN_tup, gIx_t2, Bool.not_not, dnE, dnL, decide_true, decide_false, gListL_lst, gTupL_lst, gListU_lst, gListU_tup, iOf_int, graphD, edD, optD, pvD, lvD, lvI, trD, Bool.xor_false, Bool.not_false, Bool.not_true]
          refine ⟨u, by rw [List.length_map, hb]; exact ixN_nat hun, ?_⟩
          refine hN2 _ ⟨l1, b'.set u t, some (0, natD u), ey2, fun e z => hsub e (List.mem_cons_of_mem _ z), by rw [List.length_set]; exact hb, by rw [← hu]; rfl, ?_⟩
          rw [List.map_set]; rfl
      · rintro ρ ⟨l1, b', w8, ey, hsub, hb, hu, rfl⟩
        cases l1 with
        | cons e l1 => cases ey
        | nil =>
          have hu : b' = (lev lv n s (k + 1)).2 := hu
          subst hu
          try simp only [ownLst, ownObj, mTake, mOf, fAndV, fOrV, fArgs, fCons, fNil, fVar_0, fVar_s, fUn, fBin, fBool, startE, envOf, slot, gSeq, frzE, gComp, gCompD, wipe_nil, wipe_cons, List.map_cons, List.map_nil, List.cons_append, List.nil_append, List.append_nil, true_and, and_true, List.set_cons_zero, List.set_cons_succ, List.length_cons, List.length_nil, List.replicate_succ, List.replicate_zero, Nat.reduceSub, Nat.reduceAdd, Nat.reduceLT, DEnds.fn, bOf_bl, eq_self, reduceIte, Bool.false_eq_true, gNotV_bl, Bool.not_true, Bool.not_false, g2I_int, g2I0_int, g1I_int, gLen_lst, gLen_tup, gInt_int, gMax2_int, gMin2_int, gIsN_non, gIsN_obj, gIsN_dT, gIsN_dK, gIsN_int, xsOf_lst, tsOf_tup, gIx_t0, gIx_t1, gIx_l0, gIx_l1, gIx_l2, gEqA_int, gEqA_str, gEqA_bl, gTup, gLst, Option.isSome_some, Bool.false_xor, Bool.true_xor, gFor, gNegI, gEqA_no, gIsN_lst, gIsN_tup, gIx_t2, Bool.not_not, dnE, dnL, decide_true, decide_false, gListL_lst, gTupL_lst, gListU_lst, gListU_tup, iOf_int, graphD, edD, optD, pvD, lvD, lvI, trD, Bool.xor_false, Bool.not_false, Bool.not_true]
          refine ⟨by rw [layersD_len, szL]; omega, ?_⟩
          exact hN _ ⟨k + 1, m, _, _, _, by omega, ex2, rfl⟩
  · rintro ρ ⟨k, m, v6, v7, v8, hk, ex, rfl⟩
    cases m with
    | succ m => cases ex
    | zero =>
      have hk : k = size := hk
      subst hk
      try simp only [ownLst, ownObj, mTake, mOf, fAndV, fOrV, fArgs, fCons, fNil, fVar_0, fVar_s, fUn, fBin, fBool, startE, envOf, slot, gSeq, frzE, gComp, gCompD, wipe_nil, wipe_cons, List.map_cons, List.map_nil, List.cons_append, List.nil_append, List.append_nil, true_and, and_true, List.set_cons_zero, List.set_cons_succ, List.length_cons, List.length_nil, List.replicate_succ, List.replicate_zero, Nat.reduceSub, Nat.reduceAdd, Nat.reduceLT, DEnds.fn, bOf_bl, eq_self, reduceIte, Bool.false_eq_true, gNotV_bl, Bool.not_true, Bool.not_false, g2I_int, g2I0_int, g1I_int, gLen_lst, gLen_tup, gInt_int, gMax2_int, gMin2_int, gIsN_non, gIsN_obj, gIsN_dT, gIsN_dK, gIsN_int, xsOf_lst, tsOf_tup, gIx_t0, gIx_t1, gIx_l0, gIx_l1, gIx_l2, gEqA_int, gEqA_str, gEqA_bl, gTup, gLst, Option.isSome_some, Bool.false_xor, Bool.true_xor, gFor, gNegI, gEqA_no, gIsN_lst, gIsN_tup, gIx_t2, Bool.not_not, dnE, dnL, decide_true, decide_false, gListL_lst, gTupL_lst, gListU_lst, gListU_tup, iOf_int, graphD, edD, optD, pvD, lvD, lvI, trD, Bool.xor_false, Bool.not_false, Bool.not_true]
      refine ⟨Nat.zero_le _, rng_go (by omega) ?_⟩
      refine forD_go (fun xs ρ => ∃ (j m u : Nat) (r : List Nat) (Bb : Int) (o : Option Nat) (v6 : Option (Nat × D)), j + m = k ∧ xs = (List.range' j m).map natD ∧ gt (lev lv n s m).1 u = some (Bb, o) ∧ r.length = j ∧ Wk (red p es) u r.reverse s ∧ Bb + sm (red p es) r.reverse = T ∧
        ρ = [some (0, ed), some (0, lvD lv), some (0, natD s), some (0, natD k), some (1, .lst ((lev lv n s k).2.map .int)), some (0, .lst (layersD lv n s k)), v6, v7, some (0, natD u), some (1, .lst (r.map natD))]) ?_ ?_ _ _ ⟨0, k, s, [], T, o0, _, by omega, rfl, hT, rfl, rfl, (Int.add_zero T), rfl⟩
      · rintro x r ρ ⟨j, m, u, r, Bb, o, w6, hj, ey, hg, hr, hw, hs2, rfl⟩ N2 hN2
        cases m with
        | zero => cases ey
        | succ m =>
          rw [List.range'_succ, List.map_cons] at ey
          injection ey with ey1 ey2
          subst ey1
          obtain ⟨u', b', o', i, c, g1, g2, g3, g4⟩ := lev_from gw L hsn hg
          subst g4
          have ge := red_get.mp g2
          refine ⟨_, rfl, ?_⟩
          try simp only [ownLst, ownObj, mTake, mOf, fAndV, fOrV, fArgs, fCons, fNil, fVar_0, fVar_s, fUn, fBin, fBool, startE, envOf, slot, gSeq, frzE, gComp, gCompD, wipe_nil, wipe_cons, List.map_cons, List.map_nil, List.cons_append, List.nil_append, List.append_nil, true_and, and_true, List.set_cons_zero, List.set_cons_succ, List.length_cons, List.length_nil, List.replicate_succ, List.replicate_zero, Nat.reduceSub, Nat.reduceAdd, Nat.reduceLT, DEnds.fn, bOf_bl, eq_self, reduceIte, Bool.false_eq_true, gNotV_bl, Bool.not_true, Bool.not_false, g2I_int, g2I0_int, g1I_int, gLen_lst, gLen_tup, gInt_int, gMax2_int, gMin2_int, gIsN_non, gIsN_obj, gIsN_dT, gIsN_dK, gIsN_int, xsOf_lst, tsOf_tup, gIx_t0, gIx_t1, gIx_l0, gIx_l1, gIx_l2, gEqA_int, gEqA_str, gEqA_bl, gTup, gLst, Option.isSome_some, Bool.false_xor, Bool.true_xor, gFor, gNegI, gEqA_no, gIsN_lst, gIsN_tup, gIx_t2, Bool.not_not, dnE, dnL, decide_true, decide_false, gListL_lst, gTupL_lst, gListU_lst, gListU_tup, iOf_int, graphD, edD, optD, pvD, lvD, lvI, trD, Bool.xor_false, Bool.not_false, Bool.not_true]
          refine gIxN_nat (k := m + 1) (by omega) (layersD_get (by omega)) ?_
          refine dget_go hg ?_
          try simp only [ownLst, ownObj, mTake, mOf, fAndV, fOrV, fArgs, fCons, fNil, fVar_0, fVar_s, fUn, fBin, fBool, startE, envOf, slot, gSeq, frzE, gComp, gCompD, wipe_nil, wipe_cons, List.map_cons, List.map_nil, List.cons_append, List.nil_append, List.append_nil, true_and, and_true, List.set_cons_zero, List.set_cons_succ, List.length_cons, List.length_nil, List.replicate_succ, List.replicate_zero, Nat.reduceSub, Nat.reduceAdd, Nat.reduceLT, DEnds.fn, bOf_bl, eq_self, reduceIte, Bool.false_eq_true, gNotV_bl, Bool.not_true, Bool.not_false, g2I_int, g2I0_int, g1I_int, gLen_lst, gLen_tup, gInt_int, gMax2_int, gMin2_int, gIsN_non, gIsN_obj, gIsN_dT, gIsN_dK, gIsN_int, xsOf_lst, tsOf_tup, gIx_t0, gIx_t1, gIx_l0, gIx_l1, gIx_l2, gEqA_int, gEqA_str, gEqA_bl, gTup, gLst, Option.isSome_some, Bool.false_xor, Bool.true_xor, gFor, gNegI, gEqA_no, gIsN_lst, gIsN_tup, gIx_t2, Bool.not_not, dnE, dnL, decide_true, decide_false, gListL_lst, gTupL_lst, gListU_lst, gListU_tup, iOf_int, graphD, edD, optD, pvD, lvD, lvI, trD, Bool.xor_false, Bool.not_false, Bool.not_true]
          refine ⟨by rw [List.length_map, szL]; omega, ?_⟩
          refine gIx_last ?_
          refine gIx_seq hs (edsD_get ge) ?_
          try simp only [ownLst, ownObj, mTake, mOf, fAndV, fOrV, fArgs, fCons, fNil, fVar_0, fVar_s, fUn, fBin, fBool, startE, envOf, slot, gSeq, frzE, gComp, gCompD, wipe_nil, wipe_cons, List.map_cons, List.map_nil, List.cons_append, List.nil_append, List.append_nil, true_and, and_true, List.set_cons_zero, List.set_cons_succ, List.length_cons, List.length_nil, List.replicate_succ, List.replicate_zero, Nat.reduceSub, Nat.reduceAdd, Nat.reduceLT, DEnds.fn, bOf_bl, eq_self, reduceIte, Bool.false_eq_true, gNotV_bl, Bool.not_true, Bool.not_false, g2I_int, g2I0_int, g1I_int, gLen_lst, gLen_tup, gInt_int, gMax2_int, gMin2_int, gIsN_non, gIsN_obj, gIsN_dT, gIsN_dK, gIsN_int, xsOf_lst, tsOf_tup, gIx_t0, gIx_t1, gIx_l0, gIx_l1, gIx_l2, gEqA_int, gEqA_str, gEqA_bl, gTup, gLst, Option.isSome_some, Bool.false_xor, Bool.true_xor, gFor, gNegI, gEqA_no, gIsN_lst, gIsN_tup, gIx_t2, Bool.not_not, dnE, dnL, decide_true, decide_false, gListL_lst, gTupL_lst, gListU_lst, gListU_tup, iOf_int, graphD, edD, optD, pvD, lvD, lvI, trD, Bool.xor_false, Bool.not_false, Bool.not_true]
          refine hN2 _ ⟨j + 1, m, u', r ++ [i], b', o', some (0, natD j), by omega, ey2, g1, by rw [List.length_append, hr]; rfl, ?_, ?_, ?_⟩
          · rw [List.reverse_append]
            exact ⟨u, c, g2, hw⟩
          · rw [List.reverse_append]
            show b' + (cst (red p es) i + sm (red p es) r.reverse) = T
            rw [cst_at g2]
            omega
          · rw [List.map_append]; rfl
      · rintro ρ ⟨j, m, u, r, Bb, o, w6, hj, ey, hg, hr, hw, hs2, rfl⟩
        cases m with
        | succ m => cases ey
        | zero =>
          have hj : j = k := hj
          rw [show (lev lv n s 0).1 = [(s, (0, none))] from rfl, gt_cons] at hg
          by_cases q : s = u
          · rw [if_pos q] at hg
            cases hg
            subst q
            try simp only [ownLst, ownObj, mTake, mOf, fAndV, fOrV, fArgs, fCons, fNil, fVar_0, fVar_s, fUn, fBin, fBool, startE, envOf, slot, gSeq, frzE, gComp, gCompD, wipe_nil, wipe_cons, List.map_cons, List.map_nil, List.cons_append, List.nil_append, List.append_nil, true_and, and_true, List.set_cons_zero, List.set_cons_succ, List.length_cons, List.length_nil, List.replicate_succ, List.replicate_zero, Nat.reduceSub, Nat.reduceAdd, Nat.reduceLT, DEnds.fn, bOf_bl, eq_self, reduceIte, Bool.false_eq_true, gNotV_bl, Bool.not_true, Bool.not_false, g2I_int, g2I0_int, g1I_int, gLen_lst, gLen_tup, gInt_int, gMax2_int, gMin2_int, gIsN_non, gIsN_obj, gIsN_dT, gIsN_dK, gIsN_int, xsOf_lst, tsOf_tup, gIx_t0, gIx_t1, gIx_l0, gIx_l1, gIx_l2, gEqA_int, gEqA_str, gEqA_bl, gTup, gLst, Option.isSome_some, Bool.false_xor, Bool.true_xor, gFor, gNegI, gEqA_no, gIsN_lst, gIsN_tup, gIx_t2, Bool.not_not, dnE, dnL, decide_true, decide_false, gListL_lst, gTupL_lst, gListU_lst, gListU_tup, iOf_int, graphD, edD, optD, pvD, lvD, lvI, trD, Bool.xor_false, Bool.not_false, Bool.not_true]
            have w2 := red_wk.mp hw
            have s2 := red_sm (p := p) w2
            have := hR r.reverse (by rw [List.length_reverse]; omega) (fun z => by
              have := congrArg List.length z
              rw [List.length_reverse, List.length_nil] at this
              omega) w2 (by omega)
            rw [List.map_reverse] at this
            exact this
          · rw [if_neg q] at hg
            cases hg
abbrev s_short_ring : Stmt := topS 7
theorem sc_short_ring : FnScope ["count", "edges", "prices", "ring", "leaving", "start", "layers", "_", "best", "size", "node"] ["count", "edges"] (defScope s_short_ring) := ⟨rfl, rfl, rfl, by decide +kernel, rfl, by decide +kernel, by decide +kernel⟩
theorem ok_short_ring {f : Addr} {fd : FuncData} (F : Fun K "short_ring" "short_ring" s_short_ring f fd) (T : Bi mg) (c_closed_walk : Cal P w K mg base "closed_walk" 2 ["edges", "leaving", "start", "size"] (.own 1) [] w_closed_walk) (c_edges_leaving : Cal P w K mg base "edges_leaving" 1 ["count", "edges", "prices"] (.own 0) [] w_edges_leaving) (c_next_layer : Cal P w K mg base "next_layer" 1 ["leaving", "layer", "best"] (.own 1) [] w_next_layer) (c_prices_or_ring : Cal P w K mg base "prices_or_ring" 3 ["count", "edges"] (.own 2) [] w_prices_or_ring) : FnOk P w K mg base CX0 4 f fd ["count", "edges"] (spD K (.own 1) w_short_ring) := by
  refine Fun_okD F sc_short_ring (fun _ _ _ h => by obtain ⟨_, _, _, e, _, _, _, _⟩ := h; rw [e]; rfl) fun B cdv A outer s H E hr => ⟨_, (ds_cons (ds_asgO 2 3 1 rfl (dm_of (de_C c_prices_or_ring hr (da_cons (m := .own 0) (de_v 0) (da_cons (m := .own 0) (de_v 1) da_nil)))) sc_short_ring.nd rfl (by first | exact Or.inl rfl | exact Or.inr rfl) (by decide) rfl (by first | exact Or.inl rfl | exact Or.inr rfl) (by decide))
(ds_cons (ds_frz 2 (ds_if (dt_is (de_var 3 1) (de_non (m := .rd)))
(ds_one (ds_retM (dm_of (de_non (m := .own 1)))))
ds_nil))
(ds_cons (ds_setM 4 0 sc_short_ring.nd rfl (by first | exact Or.inl rfl | exact Or.inr rfl) (by decide) (dm_of (de_C c_edges_leaving hr (da_cons (m := .own 0) (de_v 0) (da_cons (m := .own 0) (de_v 1) (da_cons (m := .own 0) (de_v 2) da_nil))))))
(ds_cons (ds_setLc (own := [("start", 5)]) 6 0 rfl sc_short_ring.nd rfl rfl (by decide) (sw_true rfl rfl rfl rfl) (di_range T.range_ (de_v 0)) (blk_of ["count", "edges", "prices", "ring", "leaving", "start", "layers", "_", "best", "size", "node"] (defScope s_short_ring) rfl (by decide +kernel) (by decide +kernel) (by decide +kernel) (by decide +kernel)) (dgc_name 5 sc_short_ring.nd rfl) (hol_cons rfl (fun _ _ => rfl) hol_nil) (fun _ _ _ _ _ => dts_nil) (fun _ _ _ _ _ => (de_frz (de_disp1 (de_v 5) (de_tup (da_cons (m := .own 0) (de_int (m := .own 0)) (da_cons (m := .own 0) (de_non (m := .own 0)) da_nil)))))))
(ds_cons (ds_setLc (own := [("_", 7)]) 8 1 rfl sc_short_ring.nd rfl rfl (by decide) (sw_true rfl rfl rfl rfl) (di_range T.range_ (de_v 0)) (blk_of ["count", "edges", "prices", "ring", "leaving", "start", "layers", "_", "best", "size", "node"] (defScope s_short_ring) rfl (by decide +kernel) (by decide +kernel) (by decide +kernel) (by decide +kernel)) (dgc_name 7 sc_short_ring.nd rfl) (hol_cons rfl (fun _ _ => rfl) hol_nil) (fun _ _ _ _ _ => dts_nil) (fun _ _ _ _ _ => (de_rep (de_frz (de_lst 0 (da_cons (m := .own 0) (de_int (m := .own 0)) da_nil))) (de_v 0))))
(ds_cons (ds_for PassesOwn.never rfl (di_range2 T.range_ (de_int (m := .rd)) (de_len (m := .rd) T.len_ (de_var 3 1))) (dg_name 9 sc_short_ring.nd rfl (by first | exact Or.inl rfl | exact Or.inr rfl) (by decide))
(ds_one (ds_for PassesOwn.never rfl (di_range T.range_ (de_v 0)) (dg_name 5 sc_short_ring.nd rfl (by first | exact Or.inl rfl | exact Or.inr rfl) (by decide))
(ds_cons (ds_setL 6 0 (dm_of (de_frz (de_CR (n := 1) c_next_layer hr (da_cons (m := .rd) (de_rd (de_v 4)) (da_cons (m := .rd) (de_rd (de_at (de_var 6 1) (de_v 5))) (da_cons (m := .rd) (de_rd (de_at (de_var 8 2) (de_v 5))) da_nil)))))) (de_v 5))
(ds_cons (ds_if (dt_din (hr.u 1) (de_v 5) (de_at (de_var 6 1) (de_v 5)))
(ds_one (ds_retM (dm_of (de_C c_closed_walk hr (da_cons (m := .own 0) (de_v 1) (da_cons (m := .own 0) (de_v 4) (da_cons (m := .own 0) (de_v 5) (da_cons (m := .own 0) (de_v 9) da_nil))))))))
ds_nil)
(ds_one (ds_forK PassesOwn.never rfl (de_bor0 (de_at (de_var 6 1) (de_v 5))) (dg_name 10 sc_short_ring.nd rfl (by first | exact Or.inl rfl | exact Or.inr rfl) (by decide))
(ds_one (ds_setPL 0 (dm_of (de_bor0 (de_at (de_dget (hr.u 1) (de_at (de_var 6 1) (de_v 5)) (de_v 10)) (de_int (m := .rd))))) (dp_ix (dp_var 8) (de_v 5)) (de_v 10))))))))))
(ds_one (ds_retM (dm_take 3 1))))))))), fun ds R ⟨es, n, ed, e, hs, ok, hN, hR⟩ => ?_⟩
  subst e
  have n1 := ok.n0
  try simp only [ownLst, ownObj, mTake, mOf, fAndV, fOrV, fArgs, fCons, fNil, fVar_0, fVar_s, fUn, fBin, fBool, startE, envOf, slot, gSeq, frzE, gComp, gCompD, wipe_nil, wipe_cons, List.map_cons, List.map_nil, List.cons_append, List.nil_append, List.append_nil, true_and, and_true, List.set_cons_zero, List.set_cons_succ, List.length_cons, List.length_nil, List.replicate_succ, List.replicate_zero, Nat.reduceSub, Nat.reduceAdd, Nat.reduceLT, DEnds.fn, bOf_bl, eq_self, reduceIte, Bool.false_eq_true, gNotV_bl, Bool.not_true, Bool.not_false, g2I_int, g2I0_int, g1I_int, gLen_lst, gLen_tup, gInt_int, gMax2_int, gMin2_int, gIsN_non, gIsN_obj, gIsN_dT, gIsN_dK, gIsN_int, xsOf_lst, tsOf_tup, gIx_t0, gIx_t1, gIx_l0, gIx_l1, gIx_l2, gEqA_int, gEqA_str, gEqA_bl, gTup, gLst, Option.isSome_some, Bool.false_xor, Bool.true_xor, gFor, gNegI, gEqA_no, gIsN_lst, gIsN_tup, gIx_t2, Bool.not_not, dnE, dnL, decide_true, decide_false, gListL_lst, gTupL_lst, gListU_lst, gListU_tup, iOf_int, graphD, edD, optD, pvD, lvD, lvI, trD, Bool.xor_false, Bool.not_false, Bool.not_true]
  refine ⟨es, n, ed, rfl, hs, ok, fun ps hl hno => ⟨_, _, rfl, ?_⟩, fun ps node is hl i1 i2 i3 i4 => ⟨_, _, rfl, ?_⟩⟩
  · try simp only [ownLst, ownObj, mTake, mOf, fAndV, fOrV, fArgs, fCons, fNil, fVar_0, fVar_s, fUn, fBin, fBool, startE, envOf, slot, gSeq, frzE, gComp, gCompD, wipe_nil, wipe_cons, List.map_cons, List.map_nil, List.cons_append, List.nil_append, List.append_nil, true_and, and_true, List.set_cons_zero, List.set_cons_succ, List.length_cons, List.length_nil, List.replicate_succ, List.replicate_zero, Nat.reduceSub, Nat.reduceAdd, Nat.reduceLT, DEnds.fn, bOf_bl, eq_self, reduceIte, Bool.false_eq_true, gNotV_bl, Bool.not_true, Bool.not_false, g2I_int, g2I0_int, g1I_int, gLen_lst, gLen_tup, gInt_int, gMax2_int, gMin2_int, gIsN_non, gIsN_obj, gIsN_dT, gIsN_dK, gIsN_int, xsOf_lst, tsOf_tup, gIx_t0, gIx_t1, gIx_l0, gIx_l1, gIx_l2, gEqA_int, gEqA_str, gEqA_bl, gTup, gLst, Option.isSome_some, Bool.false_xor, Bool.true_xor, gFor, gNegI, gEqA_no, gIsN_lst, gIsN_tup, gIx_t2, Bool.not_not, dnE, dnL, decide_true, decide_false, gListL_lst, gTupL_lst, gListU_lst, gListU_tup, iOf_int, graphD, edD, optD, pvD, lvD, lvI, trD, Bool.xor_false, Bool.not_false, Bool.not_true]
    exact hN hno
  try simp only [ownLst, ownObj, mTake, mOf, fAndV, fOrV, fArgs, fCons, fNil, fVar_0, fVar_s, fUn, fBin, fBool, startE, envOf, slot, gSeq, frzE, gComp, gCompD, wipe_nil, wipe_cons, List.map_cons, List.map_nil, List.cons_append, List.nil_append, List.append_nil, true_and, and_true, List.set_cons_zero, List.set_cons_succ, List.length_cons, List.length_nil, List.replicate_succ, List.replicate_zero, Nat.reduceSub, Nat.reduceAdd, Nat.reduceLT, DEnds.fn, bOf_bl, eq_self, reduceIte, Bool.false_eq_true, gNotV_bl, Bool.not_true, Bool.not_false, g2I_int, g2I0_int, g1I_int, gLen_lst, gLen_tup, gInt_int, gMax2_int, gMin2_int, gIsN_non, gIsN_obj, gIsN_dT, gIsN_dK, gIsN_int, xsOf_lst, tsOf_tup, gIx_t0, gIx_t1, gIx_l0, gIx_l1, gIx_l2, gEqA_int, gEqA_str, gEqA_bl, gTup, gLst, Option.isSome_some, Bool.false_xor, Bool.true_xor, gFor, gNegI, gEqA_no, gIsN_lst, gIsN_tup, gIx_t2, Bool.not_not, dnE, dnL, decide_true, decide_false, gListL_lst, gTupL_lst, gListU_lst, gListU_tup, iOf_int, graphD, edD, optD, pvD, lvD, lvI, trD, Bool.xor_false, Bool.not_false, Bool.not_true]
  refine ⟨es, n, ed, ps, rfl, hs, ok, hl, fun lv L => ?_⟩
  have gw : Wf (red (pf ps) es) n := red_wf ok.wf
  try simp only [ownLst, ownObj, mTake, mOf, fAndV, fOrV, fArgs, fCons, fNil, fVar_0, fVar_s, fUn, fBin, fBool, startE, envOf, slot, gSeq, frzE, gComp, gCompD, wipe_nil, wipe_cons, List.map_cons, List.map_nil, List.cons_append, List.nil_append, List.append_nil, true_and, and_true, List.set_cons_zero, List.set_cons_succ, List.length_cons, List.length_nil, List.replicate_succ, List.replicate_zero, Nat.reduceSub, Nat.reduceAdd, Nat.reduceLT, DEnds.fn, bOf_bl, eq_self, reduceIte, Bool.false_eq_true, gNotV_bl, Bool.not_true, Bool.not_false, g2I_int, g2I0_int, g1I_int, gLen_lst, gLen_tup, gInt_int, gMax2_int, gMin2_int, gIsN_non, gIsN_obj, gIsN_dT, gIsN_dK, gIsN_int, xsOf_lst, tsOf_tup, gIx_t0, gIx_t1, gIx_l0, gIx_l1, gIx_l2, gEqA_int, gEqA_str, gEqA_bl, gTup, gLst, Option.isSome_some, Bool.false_xor, Bool.true_xor, gFor, gNegI, gEqA_no, gIsN_lst, gIsN_tup, gIx_t2, Bool.not_not, dnE, dnL, decide_true, decide_false, gListL_lst, gTupL_lst, gListU_lst, gListU_tup, iOf_int, graphD, edD, optD, pvD, lvD, lvI, trD, Bool.xor_false, Bool.not_false, Bool.not_true]
  refine rng_go (by omega) ?_
  refine compD_map (xs := List.range' 0 n) natD (fun k => some (layD (lev lv n k 0).1)) (fun k hk N hN => ⟨_, rfl, ?_⟩) (by rw [List.length_range', szL]; omega) ?_
  · try simp only [ownLst, ownObj, mTake, mOf, fAndV, fOrV, fArgs, fCons, fNil, fVar_0, fVar_s, fUn, fBin, fBool, startE, envOf, slot, gSeq, frzE, gComp, gCompD, wipe_nil, wipe_cons, List.map_cons, List.map_nil, List.cons_append, List.nil_append, List.append_nil, true_and, and_true, List.set_cons_zero, List.set_cons_succ, List.length_cons, List.length_nil, List.replicate_succ, List.replicate_zero, Nat.reduceSub, Nat.reduceAdd, Nat.reduceLT, DEnds.fn, bOf_bl, eq_self, reduceIte, Bool.false_eq_true, gNotV_bl, Bool.not_true, Bool.not_false, g2I_int, g2I0_int, g1I_int, gLen_lst, gLen_tup, gInt_int, gMax2_int, gMin2_int, gIsN_non, gIsN_obj, gIsN_dT, gIsN_dK, gIsN_int, xsOf_lst, tsOf_tup, gIx_t0, gIx_t1, gIx_l0, gIx_l1, gIx_l2, gEqA_int, gEqA_str, gEqA_bl, gTup, gLst, Option.isSome_some, Bool.false_xor, Bool.true_xor, gFor, gNegI, gEqA_no, gIsN_lst, gIsN_tup, gIx_t2, Bool.not_not, dnE, dnL, decide_true, decide_false, gListL_lst, gTupL_lst, gListU_lst, gListU_tup, iOf_int, graphD, edD, optD, pvD, lvD, lvI, trD, Bool.xor_false, Bool.not_false, Bool.not_true]
    exact ⟨by decide, _, rfl, hN⟩
  refine rng_go (by omega) ?_
  refine compD_map (xs := List.range' 0 n) natD (fun k => some (.lst ((lev lv n k 0).2.map .int))) (fun k hk N hN => ⟨_, rfl, ?_⟩) (by rw [List.length_range', szL]; omega) ?_
  · try simp only [ownLst, ownObj, mTake, mOf, fAndV, fOrV, fArgs, fCons, fNil, fVar_0, fVar_s, fUn, fBin, fBool, startE, envOf, slot, gSeq, frzE, gComp, gCompD, wipe_nil, wipe_cons, List.map_cons, List.map_nil, List.cons_append, List.nil_append, List.append_nil, true_and, and_true, List.set_cons_zero, List.set_cons_succ, List.length_cons, List.length_nil, List.replicate_succ, List.replicate_zero, Nat.reduceSub, Nat.reduceAdd, Nat.reduceLT, DEnds.fn, bOf_bl, eq_self, reduceIte, Bool.false_eq_true, gNotV_bl, Bool.not_true, Bool.not_false, g2I_int, g2I0_int, g1I_int, gLen_lst, gLen_tup, gInt_int, gMax2_int, gMin2_int, gIsN_non, gIsN_obj, gIsN_dT, gIsN_dK, gIsN_int, xsOf_lst, tsOf_tup, gIx_t0, gIx_t1, gIx_l0, gIx_l1, gIx_l2, gEqA_int, gEqA_str, gEqA_bl, gTup, gLst, Option.isSome_some, Bool.false_xor, Bool.true_xor, gFor, gNegI, gEqA_no, gIsN_lst, gIsN_tup, gIx_t2, Bool.not_not, dnE, dnL, decide_true, decide_false, gListL_lst, gTupL_lst, gListU_lst, gListU_tup, iOf_int, graphD, edD, optD, pvD, lvD, lvI, trD, Bool.xor_false, Bool.not_false, Bool.not_true]
    refine ⟨by decide, rep_go (by rw [szL]; omega) ?_⟩
    rw [rep_ints]
    exact hN
  rw [List.filterMap_eq_map', List.filterMap_eq_map']
  try simp only [ownLst, ownObj, mTake, mOf, fAndV, fOrV, fArgs, fCons, fNil, fVar_0, fVar_s, fUn, fBin, fBool, startE, envOf, slot, gSeq, frzE, gComp, gCompD, wipe_nil, wipe_cons, List.map_cons, List.map_nil, List.cons_append, List.nil_append, List.append_nil, true_and, and_true, List.set_cons_zero, List.set_cons_succ, List.length_cons, List.length_nil, List.replicate_succ, List.replicate_zero, Nat.reduceSub, Nat.reduceAdd, Nat.reduceLT, DEnds.fn, bOf_bl, eq_self, reduceIte, Bool.false_eq_true, gNotV_bl, Bool.not_true, Bool.not_false, g2I_int, g2I0_int, g1I_int, gLen_lst, gLen_tup, gInt_int, gMax2_int, gMin2_int, gIsN_non, gIsN_obj, gIsN_dT, gIsN_dK, gIsN_int, xsOf_lst, tsOf_tup, gIx_t0, gIx_t1, gIx_l0, gIx_l1, gIx_l2, gEqA_int, gEqA_str, gEqA_bl, gTup, gLst, Option.isSome_some, Bool.false_xor, Bool.true_xor, gFor, gNegI, gEqA_no, gIsN_lst, gIsN_tup, gIx_t2, Bool.not_not, dnE, dnL, decide_true, decide_false, gListL_lst, gTupL_lst, gListU_lst, gListU_tup, iOf_int, graphD, edD, optD, pvD, lvD, lvI, trD, Bool.xor_false, Bool.not_false, Bool.not_true]
  rw [List.length_map]
  refine rng2_go (a := 1) (by omega) (by omega) ?_
  have g0 : ∀ (f : Nat → D) (v : Nat), v < n → ((List.range' 0 n).map f)[v]? = some (f v) := fun f v hv => by
    rw [List.getElem?_map, List.getElem?_range' hv]; simp
  refine forD_go (fun xs ρ => ∃ (k m : Nat) (Ls Bs : List D) (v5 v7 v9 v10 : Option (Nat × D)), k + 1 + m = is.length ∧ xs = (List.range' (k + 1) m).map natD ∧ Ls.length = n ∧ Bs.length = n ∧ (∀ v, v < n → Ls[v]? = some (layD (lev lv n v k).1)) ∧ (∀ v, v < n → Bs[v]? = some (.lst ((lev lv n v k).2.map .int))) ∧
    (∀ j, 1 ≤ j → j ≤ k → ∀ v, v < n → v ∉ (lev lv n v j).1.map (·.1)) ∧
    ρ = [some (0, natD n), some (0, ed), some (0, .lst (ps.map .int)), some (1, .lst (is.map natD)), some (0, lvD lv), v5, some (1, .lst Ls), v7, some (2, .lst Bs), v9, v10]) ?_ ?_ _ _ ⟨0, is.length - 1, _, _, none, none, none, none, by
      have := List.length_pos_iff.mpr i1
      omega, rfl, by rw [List.length_map, List.length_range'], by rw [List.length_map, List.length_range'], fun v hv => g0 _ v hv, fun v hv => g0 _ v hv, fun j a b => by omega, rfl⟩
  · rintro x r ρ ⟨k, m, Ls, Bs, v5, v7, v9, v10, hk, ex, hL, hB, gL, gB, nf, rfl⟩ N hN2
    cases m with
    | zero => cases ex
    | succ m =>
      rw [List.range'_succ, List.map_cons] at ex
      injection ex with ex1 ex2
      subst ex1
      refine ⟨_, rfl, ?_⟩
      try simp only [ownLst, ownObj, mTake, mOf, fAndV, fOrV, fArgs, fCons, fNil, fVar_0, fVar_s, fUn, fBin, fBool, startE, envOf, slot, gSeq, frzE, gComp, gCompD, wipe_nil, wipe_cons, List.map_cons, List.map_nil, List.cons_append, List.nil_append, List.append_nil, true_and, and_true, List.set_cons_zero, List.set_cons_succ, List.length_cons, List.length_nil, List.replicate_succ, List.replicate_zero, Nat.reduceSub, Nat.reduceAdd, Nat.reduceLT, DEnds.fn, bOf_bl, eq_self, reduceIte, Bool.false_eq_true, gNotV_bl, Bool.not_true, Bool.not_false, g2I_int, g2I0_int, g1I_int, gLen_lst, gLen_tup, gInt_int, gMax2_int, gMin2_int, gIsN_non, gIsN_obj, gIsN_dT, gIsN_dK, gIsN_int, xsOf_lst, tsOf_tup, gIx_t0, gIx_t1, gIx_l0, gIx_l1, gIx_l2, gEqA_int, gEqA_str, gEqA_bl, gTup, gLst, Option.isSome_some, Bool.false_xor, Bool.true_xor, gFor, gNegI, gEqA_no, gIsN_lst, gIsN_tup, gIx_t2, Bool.not_not, dnE, dnL, decide_true, decide_false, gListL_lst, gTupL_lst, gListU_lst, gListU_tup, iOf_int, graphD, edD, optD, pvD, lvD, lvI, trD, Bool.xor_false, Bool.not_false, Bool.not_true]
      refine rng_go (by omega) ?_
      refine forD_go (fun xs ρ => ∃ (s m : Nat) (Ls Bs : List D) (v5 v10 : Option (Nat × D)), s + m = n ∧ xs = (List.range' s m).map natD ∧ Ls.length = n ∧ Bs.length = n ∧ (∀ v, v < n → Ls[v]? = some (layD (lev lv n v (if v < s then k + 1 else k)).1)) ∧ (∀ v, v < n → Bs[v]? = some (.lst ((lev lv n v (if v < s then k + 1 else k)).2.map .int))) ∧
        (∀ v, v < s → v ∉ (lev lv n v (k + 1)).1.map (·.1)) ∧
        ρ = [some (0, natD n), some (0, ed), some (0, .lst (ps.map .int)), some (1, .lst (is.map natD)), some (0, lvD lv), v5, some (1, .lst Ls), v7, some (2, .lst Bs), some (0, natD (k + 1)), v10]) ?_ ?_ _ _ ⟨0, n, Ls, Bs, _, _, by omega, rfl, hL, hB, fun v hv => by rw [if_neg (Nat.not_lt_zero v)]; exact gL v hv, fun v hv => by rw [if_neg (Nat.not_lt_zero v)]; exact gB v hv, fun v h => absurd h (Nat.not_lt_zero v), rfl⟩
      · rintro x r ρ ⟨s, m, Ls, Bs, v5, v10, hsm, ey, hL, hB, gL, gB, nf2, rfl⟩ N2 hN2
        cases m with
        | zero => cases ey
        | succ m =>
          rw [List.range'_succ, List.map_cons] at ey
          injection ey with ey1 ey2
          subst ey1
          have hsn : s < n := by omega
          have I := lev_ok gw L hsn k
          have I2 := lev_ok gw L hsn (k + 1)
          have gs1 := gL s hsn
          have gb1 := gB s hsn
          rw [if_neg (Nat.lt_irrefl s)] at gs1 gb1
          refine ⟨_, rfl, ?_⟩
          try simp only [ownLst, ownObj, mTake, mOf, fAndV, fOrV, fArgs, fCons, fNil, fVar_0, fVar_s, fUn, fBin, fBool, startE, envOf, slot, gSeq, frzE, gComp, gCompD, wipe_nil, wipe_cons, List.map_cons, List.map_nil, List.cons_append, List.nil_append, List.append_nil, true_and, and_true, List.set_cons_zero, List.set_cons_succ, List.length_cons, List.length_nil, List.replicate_succ, List.replicate_zero, Nat.reduceSub, Nat.reduceAdd, Nat.reduceLT, DEnds.fn, bOf_bl, eq_self, reduceIte, Bool.false_eq_true, gNotV_bl, Bool.not_true, Bool.not_false, g2I_int, g2I0_int, g1I_int, gLen_lst, gLen_tup, gInt_int, gMax2_int, gMin2_int, gIsN_non, gIsN_obj, gIsN_dT, gIsN_dK, gIsN_int, xsOf_lst, tsOf_tup, gIx_t0, gIx_t1, gIx_l0, gIx_l1, gIx_l2, gEqA_int, gEqA_str, gEqA_bl, gTup, gLst, Option.isSome_some, Bool.false_xor, Bool.true_xor, gFor, gNegI, gEqA_no, gIsN_lst, gIsN_tup, gIx_t2, Bool.not_not, dnE, dnL, decide_true, decide_false, gListL_lst, gTupL_lst, gListU_lst, gListU_tup, iOf_int, graphD, edD, optD, pvD, lvD, lvI, trD, Bool.xor_false, Bool.not_false, Bool.not_true]
          refine gIx_nat gs1 ?_
          try simp only [ownLst, ownObj, mTake, mOf, fAndV, fOrV, fArgs, fCons, fNil, fVar_0, fVar_s, fUn, fBin, fBool, startE, envOf, slot, gSeq, frzE, gComp, gCompD, wipe_nil, wipe_cons, List.map_cons, List.map_nil, List.cons_append, List.nil_append, List.append_nil, true_and, and_true, List.set_cons_zero, List.set_cons_succ, List.length_cons, List.length_nil, List.replicate_succ, List.replicate_zero, Nat.reduceSub, Nat.reduceAdd, Nat.reduceLT, DEnds.fn, bOf_bl, eq_self, reduceIte, Bool.false_eq_true, gNotV_bl, Bool.not_true, Bool.not_false, g2I_int, g2I0_int, g1I_int, gLen_lst, gLen_tup, gInt_int, gMax2_int, gMin2_int, gIsN_non, gIsN_obj, gIsN_dT, gIsN_dK, gIsN_int, xsOf_lst, tsOf_tup, gIx_t0, gIx_t1, gIx_l0, gIx_l1, gIx_l2, gEqA_int, gEqA_str, gEqA_bl, gTup, gLst, Option.isSome_some, Bool.false_xor, Bool.true_xor, gFor, gNegI, gEqA_no, gIsN_lst, gIsN_tup, gIx_t2, Bool.not_not, dnE, dnL, decide_true, decide_false, gListL_lst, gTupL_lst, gListU_lst, gListU_tup, iOf_int, graphD, edD, optD, pvD, lvD, lvI, trD, Bool.xor_false, Bool.not_false, Bool.not_true]
          refine gIx_nat gb1 ?_
          refine ⟨red (pf ps) es, n, lv, (lev lv n s k).1, (lev lv n s k).2, rfl, gw, n1, L, ⟨I.nd, I.lt⟩, I.bl, flat_lay _, ?_⟩
          try simp only [ownLst, ownObj, mTake, mOf, fAndV, fOrV, fArgs, fCons, fNil, fVar_0, fVar_s, fUn, fBin, fBool, startE, envOf, slot, gSeq, frzE, gComp, gCompD, wipe_nil, wipe_cons, List.map_cons, List.map_nil, List.cons_append, List.nil_append, List.append_nil, true_and, and_true, List.set_cons_zero, List.set_cons_succ, List.length_cons, List.length_nil, List.replicate_succ, List.replicate_zero, Nat.reduceSub, Nat.reduceAdd, Nat.reduceLT, DEnds.fn, bOf_bl, eq_self, reduceIte, Bool.false_eq_true, gNotV_bl, Bool.not_true, Bool.not_false, g2I_int, g2I0_int, g1I_int, gLen_lst, gLen_tup, gInt_int, gMax2_int, gMin2_int, gIsN_non, gIsN_obj, gIsN_dT, gIsN_dK, gIsN_int, xsOf_lst, tsOf_tup, gIx_t0, gIx_t1, gIx_l0, gIx_l1, gIx_l2, gEqA_int, gEqA_str, gEqA_bl, gTup, gLst, Option.isSome_some, Bool.false_xor, Bool.true_xor, gFor, gNegI, gEqA_no, gIsN_lst, gIsN_tup, gIx_t2, Bool.not_not, dnE, dnL, decide_true, decide_false, gListL_lst, gTupL_lst, gListU_lst, gListU_tup, iOf_int, graphD, edD, optD, pvD, lvD, lvI, trD, Bool.xor_false, Bool.not_false, Bool.not_true]
          refine ⟨s, by rw [hL]; exact ixN_nat hsn, ?_⟩
          have gs2 : (Ls.set s (layD (nextL lv (lev lv n s k).2 (lev lv n s k).1)))[s]? = some (layD (lev lv n s (k + 1)).1) := by
            rw [List.getElem?_set, if_pos rfl, if_pos (by omega)]; rfl
          try simp only [ownLst, ownObj, mTake, mOf, fAndV, fOrV, fArgs, fCons, fNil, fVar_0, fVar_s, fUn, fBin, fBool, startE, envOf, slot, gSeq, frzE, gComp, gCompD, wipe_nil, wipe_cons, List.map_cons, List.map_nil, List.cons_append, List.nil_append, List.append_nil, true_and, and_true, List.set_cons_zero, List.set_cons_succ, List.length_cons, List.length_nil, List.replicate_succ, List.replicate_zero, Nat.reduceSub, Nat.reduceAdd, Nat.reduceLT, DEnds.fn, bOf_bl, eq_self, reduceIte, Bool.false_eq_true, gNotV_bl, Bool.not_true, Bool.not_false, g2I_int, g2I0_int, g1I_int, gLen_lst, gLen_tup, gInt_int, gMax2_int, gMin2_int, gIsN_non, gIsN_obj, gIsN_dT, gIsN_dK, gIsN_int, xsOf_lst, tsOf_tup, gIx_t0, gIx_t1, gIx_l0, gIx_l1, gIx_l2, gEqA_int, gEqA_str, gEqA_bl, gTup, gLst, Option.isSome_some, Bool.false_xor, Bool.true_xor, gFor, gNegI, gEqA_no, gIsN_lst, gIsN_tup, gIx_t2, Bool.not_not, dnE, dnL, decide_true, decide_false, gListL_lst, gTupL_lst, gListU_lst, gListU_tup, iOf_int, graphD, edD, optD, pvD, lvD, lvI, trD, Bool.xor_false, Bool.not_false, Bool.not_true]
          refine gIx_nat gs2 ?_
          refine din_go ?_
          rcases g : gt (lev lv n s (k + 1)).1 s with _ | t
          case' some =>
            try simp only [ownLst, ownObj, mTake, mOf, fAndV, fOrV, fArgs, fCons, fNil, fVar_0, fVar_s, fUn, fBin, fBool, startE, envOf, slot, gSeq, frzE, gComp, gCompD, wipe_nil, wipe_cons, List.map_cons, List.map_nil, List.cons_append, List.nil_append, List.append_nil, true_and, and_true, List.set_cons_zero, List.set_cons_succ, List.length_cons, List.length_nil, List.replicate_succ, List.replicate_zero, Nat.reduceSub, Nat.reduceAdd, Nat.reduceLT, DEnds.fn, bOf_bl, eq_self, reduceIte, Bool.false_eq_true, gNotV_bl, Bool.not_true, Bool.not_false, g2I_int, g2I0_int, g1I_int, gLen_lst, gLen_tup, gInt_int, gMax2_int, gMin2_int, gIsN_non, gIsN_obj, gIsN_dT, gIsN_dK, gIsN_int, xsOf_lst, tsOf_tup, gIx_t0, gIx_t1, gIx_l0, gIx_l1, gIx_l2, gEqA_int, gEqA_str, gEqA_bl, gTup, gLst, Option.isSome_some, Bool.false_xor, Bool.true_xor, gFor, gNegI, gEqA_no, gIsN_lst, gIsN_tup, gIx_t2, Bool.not_not, dnE, dnL, decide_true, decide_false, gListL_lst, gTupL_lst, gListU_lst, gListU_tup, iOf_int, graphD, edD, optD, pvD, lvD, lvI, trD, Bool.xor_false, Bool.not_false, Bool.not_true]
            refine ⟨es, pf ps, n, ed, lv, s, k + 1, rfl, hs, ok, L, hsn, by omega, by omega, Decidable.byContradiction fun z => (by rw [gt_none.mpr z] at g; cases g), fun is' l1 ne wk sm0 => hR s is' ⟨ne, wk, sm0, fun j hj c => lev_no gw L k nf j (by omega) (red_cn.mpr c)⟩⟩
          try simp only [ownLst, ownObj, mTake, mOf, fAndV, fOrV, fArgs, fCons, fNil, fVar_0, fVar_s, fUn, fBin, fBool, startE, envOf, slot, gSeq, frzE, gComp, gCompD, wipe_nil, wipe_cons, List.map_cons, List.map_nil, List.cons_append, List.nil_append, List.append_nil, true_and, and_true, List.set_cons_zero, List.set_cons_succ, List.length_cons, List.length_nil, List.replicate_succ, List.replicate_zero, Nat.reduceSub, Nat.reduceAdd, Nat.reduceLT, DEnds.fn, bOf_bl, eq_self, reduceIte, Bool.false_eq_true, gNotV_bl, Bool.not_true, Bool.not_false, g2I_int, g2I0_int, g1I_int, gLen_lst, gLen_tup, gInt_int, gMax2_int, gMin2_int, gIsN_non, gIsN_obj, gIsN_dT, gIsN_dK, gIsN_int, xsOf_lst, tsOf_tup, gIx_t0, gIx_t1, gIx_l0, gIx_l1, gIx_l2, gEqA_int, gEqA_str, gEqA_bl, gTup, gLst, Option.isSome_some, Bool.false_xor, Bool.true_xor, gFor, gNegI, gEqA_no, gIsN_lst, gIsN_tup, gIx_t2, Bool.not_not, dnE, dnL, decide_true, decide_false, gListL_lst, gTupL_lst, gListU_lst, gListU_tup, iOf_int, graphD, edD, optD, pvD, lvD, lvI, trD, Bool.xor_false, Bool.not_false, Bool.not_true]
          refine gIx_nat gs2 ?_
          refine ⟨_, keys_nT, ?_⟩
          refine forD_go (fun xs ρ => ∃ (l1 : Lay) (b' : List Int) (Bs' : List D) (v10 : Option (Nat × D)), xs = (l1.map (·.1)).map natD ∧ (∀ e ∈ l1, e ∈ (lev lv n s (k + 1)).1) ∧ b'.length = n ∧ updB b' l1 = (lev lv n s (k + 1)).2 ∧ Bs'.length = n ∧ Bs'[s]? = some (.lst (b'.map .int)) ∧ (∀ v, v ≠ s → Bs'[v]? = Bs[v]?) ∧
            ρ = [some (0, natD n), some (0, ed), some (0, .lst (ps.map .int)), some (1, .lst (is.map natD)), some (0, lvD lv), some (0, natD s), some (1, .lst (Ls.set s (layD (lev lv n s (k + 1)).1))), v7, some (2, .lst Bs'), some (0, natD (k + 1)), v10]) ?_ ?_ _ _ ⟨(lev lv n s (k + 1)).1, (lev lv n s k).2, Bs, _, rfl, fun e h => h, I.bl, rfl, hB, gb1, fun v _ => rfl, rfl⟩
          · rintro x r ρ ⟨l1, b', Bs', w10, ez, hsub, hb, hu, hB2, gb2, gb3, rfl⟩ N3 hN3
            cases l1 with
            | nil => cases ez
            | cons e l1 =>
              obtain ⟨u, t, o⟩ := e
              rw [List.map_cons, List.map_cons] at ez
              injection ez with ez1 ez2
              subst ez1
              have he := hsub _ List.mem_cons_self
              have hun : u < n := I2.lt u (List.mem_map.mpr ⟨_, he, rfl⟩)
              refine ⟨_, rfl, ?_⟩
              try simp only [ownLst, ownObj, mTake, mOf, fAndV, fOrV, fArgs, fCons, fNil, fVar_0, fVar_s, fUn, fBin, fBool, startE, envOf, slot, gSeq, frzE, gComp, gCompD, wipe_nil, wipe_cons, List.map_cons, List.map_nil, List.cons_append, List.nil_append, List.append_nil, true_and, and_true, List.set_cons_zero, List.set_cons_succ, List.length_cons, List.length_nil, List.replicate_succ, List.replicate_zero, Nat.reduceSub, Nat.reduceAdd, Nat.reduceLT, DEnds.fn, bOf_bl, eq_self, reduceIte, Bool.false_eq_true, gNotV_bl, Bool.not_true, Bool.not_false, g2I_int, g2I0_int, g1I_int, gLen_lst, gLen_tup, gInt_int, gMax2_int, gMin2_int, gIsN_non, gIsN_obj, gIsN_dT, gIsN_dK, gIsN_int, xsOf_lst, tsOf_tup, gIx_t0, gIx_t1, gIx_l0, gIx_l1, gIx_l2, gEqA_int, gEqA_str, gEqA_bl, gTup, gLst, Option.isSome_some, Bool.false_xor, Bool.true_xor, gFor, gNegI, gEqA_no, gIsN_lst, gIsN_tup, gIx_t2, Bool.not_not, dnE, dnL, decide_true, decide_false, gListL_lst, gTupL_lst, gListU_lst, gListU_tup, iOf_int, graphD, edD, optD, pvD, lvD, lvI, trD, Bool.xor_false, Bool.not_false, Bool.not_true]
              refine gIx_nat gs2 ?_
              refine dget_go (gt_of_mem I2.nd he) ?_
              try simp only [ownLst, ownObj, mTake, mOf, fAndV, fOrV, fArgs, fCons, fNil, fVar_0, fVar_s, fUn, fBin, fBool, startE, envOf, slot, gSeq, frzE, gComp, gCompD, wipe_nil, wipe_cons, List.map_cons, List.map_nil, List.cons_append, List.nil_append, List.append_nil, true_and, and_true, List.set_cons_zero, List.set_cons_succ, List.length_cons, List.length_nil, List.replicate_succ, List.replicate_zero, Nat.reduceSub, Nat.reduceAdd, Nat.reduceLT, DEnds.fn, bOf_bl, eq_self, reduceIte, Bool.false_eq_true, gNotV_bl, Bool.not_true, Bool.not_false, g2I_int, g2I0_int, g1I_int, gLen_lst, gLen_tup, gInt_int, gMax2_int, gMin2_int, gIsN_non, gIsN_obj, gIsN_dT, gIsN_dK, gIsN_int, xsOf_lst, tsOf_tup, gIx_t0, gIx_t1, gIx_l0, gIx_l1, gIx_l2, gEqA_int, gEqA_str, gEqA_bl, gTup, gLst, Option.isSome_some, Bool.false_xor, Bool.true_xor, gFor, gNegI, gEqA_no, gIsN_lst, gIsN_tup, gIx_t2, Bool.not_not, dnE, dnL, decide_true, decide_false, gListL_lst, gTupL_lst, gListU_lst, gListU_tup, iOf_int, graphD, edD, optD, pvD, lvD, lvI, trD, Bool.xor_false, Bool.not_false, Bool.not_true]
              refine atP_go (n := 1) rfl rfl ⟨_, _, s, rfl, rfl, by rw [hB2]; exact ixN_nat hsn, ?_⟩
              try simp only [ownLst, ownObj, mTake, mOf, fAndV, fOrV, fArgs, fCons, fNil, fVar_0, fVar_s, fUn, fBin, fBool, startE, envOf, slot, gSeq, frzE, gComp, gCompD, wipe_nil, wipe_cons, List.map_cons, List.map_nil, List.cons_append, List.nil_append, List.append_nil, true_and, and_true, List.set_cons_zero, List.set_cons_succ, List.length_cons, List.length_nil, List.replicate_succ, List.replicate_zero, Nat.reduceSub, Nat.reduceAdd, Nat.reduceLT, DEnds.fn, bOf_bl, eq_self, reduceIte, Bool.false_eq_true, gNotV_bl, Bool.not_true, Bool.not_false, g2I_int, g2I0_int, g1I_int, gLen_lst, gLen_tup, gInt_int, gMax2_int, gMin2_int, gIsN_non, gIsN_obj, gIsN_dT, gIsN_dK, gIsN_int, xsOf_lst, tsOf_tup, gIx_t0, gIx_t1, gIx_l0, gIx_l1, gIx_l2, gEqA_int, gEqA_str, gEqA_bl, gTup, gLst, Option.isSome_some, Bool.false_xor, Bool.true_xor, gFor, gNegI, gEqA_no, gIsN_lst, gIsN_tup, gIx_t2, Bool.not_not, dnE, dnL, decide_true, decide_false, gListL_lst, gTupL_lst, gListU_lst, gListU_tup, iOf_int, graphD, edD, optD, pvD, lvD, lvI, trD, Bool.xor_false, Bool.not_false, Bool.not_true]
              refine atLst_go (n := 0) rfl (sub_ix gb2) ⟨_, u, rfl, by rw [List.length_map, hb]; exact ixN_nat hun, ?_⟩
              rw [set_ix gb2]
              refine hN3 _ ⟨l1, b'.set u t, Bs'.set s (.lst ((b'.set u t).map .int)), some (0, natD u), ez2, fun e z => hsub e (List.mem_cons_of_mem _ z), by rw [List.length_set]; exact hb, by rw [← hu]; rfl, by rw [List.length_set]; exact hB2, ?_, fun v hv => ?_, ?_⟩
              · rw [List.getElem?_set, if_pos rfl, if_pos (by omega)]
              · rw [List.getElem?_set, if_neg fun z => hv z.symm]; exact gb3 v hv
              · rw [List.map_set]; rfl
          · rintro ρ ⟨l1, b', Bs', w10, ez, hsub, hb, hu, hB2, gb2, gb3, rfl⟩
            cases l1 with
            | cons e l1 => cases ez
            | nil =>
              have hu : b' = (lev lv n s (k + 1)).2 := hu
              subst hu
              refine hN2 _ ⟨s + 1, m, _, Bs', _, _, by omega, ey2, by rw [List.length_set]; exact hL, hB2, fun v hv => ?_, fun v hv => ?_, fun v hv => ?_, rfl⟩
              · by_cases q : v = s
                · subst q
                  rw [if_pos (by omega)]; exact gs2
                · rw [List.getElem?_set, if_neg fun z => q z.symm, gL v hv]
                  by_cases q2 : v < s
                  · rw [if_pos q2, if_pos (by omega)]
                  · rw [if_neg q2, if_neg (by omega)]
              · by_cases q : v = s
                · subst q
                  rw [if_pos (by omega)]; exact gb2
                · rw [gb3 v q, gB v hv]
                  by_cases q2 : v < s
                  · rw [if_pos q2, if_pos (by omega)]
                  · rw [if_neg q2, if_neg (by omega)]
              · by_cases q : v = s
                · subst q
                  exact gt_none.mp g
                · exact nf2 v (by omega)
      · rintro ρ ⟨s, m, Ls, Bs, v5, v10, hsm, ey, hL, hB, gL, gB, nf2, rfl⟩
        cases m with
        | succ m => cases ey
        | zero =>
          have hsm : s = n := hsm
          subst hsm
          refine hN2 _ ⟨k + 1, m, Ls, Bs, _, _, _, _, by omega, ex2, hL, hB, fun v hv => by have := gL v hv; rwa [if_pos hv] at this, fun v hv => by have := gB v hv; rwa [if_pos hv] at this, fun j j1 j2 v hv => ?_, rfl⟩
          by_cases q : j ≤ k
          · exact nf j j1 q v hv
          · have q : j = k + 1 := by omega
            subst q
            exact nf2 v hv
  · rintro ρ ⟨k, m, Ls, Bs, v5, v7, v9, v10, hk, ex, hL, hB, gL, gB, nf, rfl⟩
    cases m with
    | succ m => cases ex
    | zero =>
      try simp only [ownLst, ownObj, mTake, mOf, fAndV, fOrV, fArgs, fCons, fNil, fVar_0, fVar_s, fUn, fBin, fBool, startE, envOf, slot, gSeq, frzE, gComp, gCompD, wipe_nil, wipe_cons, List.map_cons, List.map_nil, List.cons_append, List.nil_append, List.append_nil, true_and, and_true, List.set_cons_zero, List.set_cons_succ, List.length_cons, List.length_nil, List.replicate_succ, List.replicate_zero, Nat.reduceSub, Nat.reduceAdd, Nat.reduceLT, DEnds.fn, bOf_bl, eq_self, reduceIte, Bool.false_eq_true, gNotV_bl, Bool.not_true, Bool.not_false, g2I_int, g2I0_int, g1I_int, gLen_lst, gLen_tup, gInt_int, gMax2_int, gMin2_int, gIsN_non, gIsN_obj, gIsN_dT, gIsN_dK, gIsN_int, xsOf_lst, tsOf_tup, gIx_t0, gIx_t1, gIx_l0, gIx_l1, gIx_l2, gEqA_int, gEqA_str, gEqA_bl, gTup, gLst, Option.isSome_some, Bool.false_xor, Bool.true_xor, gFor, gNegI, gEqA_no, gIsN_lst, gIsN_tup, gIx_t2, Bool.not_not, dnE, dnL, decide_true, decide_false, gListL_lst, gTupL_lst, gListU_lst, gListU_tup, iOf_int, graphD, edD, optD, pvD, lvD, lvI, trD, Bool.xor_false, Bool.not_false, Bool.not_true]
      exact hR node is ⟨i1, i2, i3, fun j hj c => lev_no gw L k nf j (by omega) (red_cn.mpr c)⟩
abbrev s_law_ends : Stmt := topS 11
theorem sc_law_ends : FnScope ["bag", "count", "many", "ends", "loops", "k", "tail", "head"] ["bag", "count", "many"] (defScope s_law_ends) := ⟨rfl, rfl, rfl, by decide +kernel, rfl, by decide +kernel, by decide +kernel⟩
theorem ok_law_ends {f : Addr} {fd : FuncData} (F : Fun K "_law_ends" "_law_ends" s_law_ends f fd) (T : Bi mg) (c_law_draw : Cal P w K mg base "_law_draw" 1 ["bag", "size"] (.own 0) [] wDraw) : FnOk P w K mg base CX0 2 f fd ["bag", "count", "many"] (spD K (.own 0) w_law_ends) := by
  refine Fun_okD F sc_law_ends (fun _ _ _ h => by obtain ⟨_, _, _, _, e, _, _, _⟩ := h; rw [e]; rfl) fun B cdv A outer s H E hr => ⟨_, (ds_cons (ds_setM 3 1 sc_law_ends.nd rfl (by first | exact Or.inl rfl | exact Or.inr rfl) (by decide) (dm_of (de_lst 0 da_nil)))
(ds_cons (ds_setM 4 0 sc_law_ends.nd rfl (by first | exact Or.inl rfl | exact Or.inr rfl) (by decide) (dm_of (de_or (m := .own 0) (de_eq (m := .rd) (de_C c_law_draw hr (da_cons (m := .own 0) (de_v 0) (da_cons (m := .own 0) (de_int (m := .own 0)) da_nil))) (de_int (m := .rd))) (de_one (de_lt (m := .own 0) (de_v 1) (de_int (m := .rd)))))))
(ds_cons (ds_for PassesOwn.never rfl (di_range T.range_ (de_v 2)) (dg_name 5 sc_law_ends.nd rfl (by first | exact Or.inl rfl | exact Or.inr rfl) (by decide))
(ds_one (ds_if (dt_gt (de_v 1) (de_int (m := .rd)))
(ds_cons (ds_setM 6 0 sc_law_ends.nd rfl (by first | exact Or.inl rfl | exact Or.inr rfl) (by decide) (dm_of (de_C c_law_draw hr (da_cons (m := .own 0) (de_v 0) (da_cons (m := .own 0) (de_v 1) da_nil)))))
(ds_cons (ds_setM 7 0 sc_law_ends.nd rfl (by first | exact Or.inl rfl | exact Or.inr rfl) (by decide) (dm_of (de_C c_law_draw hr (da_cons (m := .own 0) (de_v 0) (da_cons (m := .own 0) (de_v 1) da_nil)))))
(ds_cons (ds_if (dt_bool (dw_and (dt_eq (de_v 7) (de_v 6)) (dw_and1 (dt_not (dt_val (de_v 4))))))
(ds_one (ds_setM 7 0 sc_law_ends.nd rfl (by first | exact Or.inl rfl | exact Or.inr rfl) (by decide) (dm_of (de_mod (m := .own 0) (de_int' (m := .rd) T.int_ (de_add (m := .rd) (de_v 6) (de_int (m := .rd)))) (de_v 1)))))
ds_nil)
(ds_one (ds_exprM (m := .own 0) (dm_append 3 0 (dm_of (de_tup (da_cons (m := .own 0) (de_v 6) (da_cons (m := .own 0) (de_v 7) da_nil))))))))))
ds_nil)))
(ds_one (ds_frz 3 (ds_retM (dm_of (de_v 3)))))))), fun ds R ⟨b, count, many, hb, e, h1, h2, hR⟩ => ?_⟩
  subst e
  try simp only [ownLst, ownObj, mTake, mOf, fAndV, fOrV, fArgs, fCons, fNil, fVar_0, fVar_s, fUn, fBin, fBool, startE, envOf, slot, gSeq, frzE, gComp, gCompD, wipe_nil, wipe_cons, List.map_cons, List.map_nil, List.cons_append, List.nil_append, List.append_nil, true_and, and_true, List.set_cons_zero, List.set_cons_succ, List.length_cons, List.length_nil, List.replicate_succ, List.replicate_zero, Nat.reduceSub, Nat.reduceAdd, Nat.reduceLT, DEnds.fn, bOf_bl, eq_self, reduceIte, Bool.false_eq_true, gNotV_bl, Bool.not_true, Bool.not_false, g2I_int, g2I0_int, g1I_int, gLen_lst, gLen_tup, gInt_int, gMax2_int, gMin2_int, gIsN_non, gIsN_obj, gIsN_dT, gIsN_dK, gIsN_int, xsOf_lst, tsOf_tup, gIx_t0, gIx_t1, gIx_l0, gIx_l1, gIx_l2, gEqA_int, gEqA_str, gEqA_bl, gTup, gLst, Option.isSome_some, Bool.false_xor, Bool.true_xor, gFor, gNegI, gEqA_no, gIsN_lst, gIsN_tup, gIx_t2, Bool.not_not, dnE, dnL, decide_true, decide_false, gListL_lst, gTupL_lst, gListU_lst, gListU_tup, iOf_int, graphD, edD, optD, pvD, lvD, lvI, trD, Bool.xor_false, Bool.not_false, Bool.not_true]
  refine ⟨Nat.zero_le _, drawN 2 hb (by decide) (by decide) fun r0 _ => ?_⟩
  try simp only [ownLst, ownObj, mTake, mOf, fAndV, fOrV, fArgs, fCons, fNil, fVar_0, fVar_s, fUn, fBin, fBool, startE, envOf, slot, gSeq, frzE, gComp, gCompD, wipe_nil, wipe_cons, List.map_cons, List.map_nil, List.cons_append, List.nil_append, List.append_nil, true_and, and_true, List.set_cons_zero, List.set_cons_succ, List.length_cons, List.length_nil, List.replicate_succ, List.replicate_zero, Nat.reduceSub, Nat.reduceAdd, Nat.reduceLT, DEnds.fn, bOf_bl, eq_self, reduceIte, Bool.false_eq_true, gNotV_bl, Bool.not_true, Bool.not_false, g2I_int, g2I0_int, g1I_int, gLen_lst, gLen_tup, gInt_int, gMax2_int, gMin2_int, gIsN_non, gIsN_obj, gIsN_dT, gIsN_dK, gIsN_int, xsOf_lst, tsOf_tup, gIx_t0, gIx_t1, gIx_l0, gIx_l1, gIx_l2, gEqA_int, gEqA_str, gEqA_bl, gTup, gLst, Option.isSome_some, Bool.false_xor, Bool.true_xor, gFor, gNegI, gEqA_no, gIsN_lst, gIsN_tup, gIx_t2, Bool.not_not, dnE, dnL, decide_true, decide_false, gListL_lst, gTupL_lst, gListU_lst, gListU_tup, iOf_int, graphD, edD, optD, pvD, lvD, lvI, trD, Bool.xor_false, Bool.not_false, Bool.not_true]
  by_cases c0 : (r0 : Int) = 0
  case' pos => rw [decide_eq_true c0]
  case' neg => rw [decide_eq_false c0]
  all_goals
    try simp only [ownLst, ownObj, mTake, mOf, fAndV, fOrV, fArgs, fCons, fNil, fVar_0, fVar_s, fUn, fBin, fBool, startE, envOf, slot, gSeq, frzE, gComp, gCompD, wipe_nil, wipe_cons, List.map_cons, List.map_nil, List.cons_append, List.nil_append, List.append_nil, true_and, and_true, List.set_cons_zero, List.set_cons_succ, List.length_cons, List.length_nil, List.replicate_succ, List.replicate_zero, Nat.reduceSub, Nat.reduceAdd, Nat.reduceLT, DEnds.fn, bOf_bl, eq_self, reduceIte, Bool.false_eq_true, gNotV_bl, Bool.not_true, Bool.not_false, g2I_int, g2I0_int, g1I_int, gLen_lst, gLen_tup, gInt_int, gMax2_int, gMin2_int, gIsN_non, gIsN_obj, gIsN_dT, gIsN_dK, gIsN_int, xsOf_lst, tsOf_tup, gIx_t0, gIx_t1, gIx_l0, gIx_l1, gIx_l2, gEqA_int, gEqA_str, gEqA_bl, gTup, gLst, Option.isSome_some, Bool.false_xor, Bool.true_xor, gFor, gNegI, gEqA_no, gIsN_lst, gIsN_tup, gIx_t2, Bool.not_not, dnE, dnL, decide_true, decide_false, gListL_lst, gTupL_lst, gListU_lst, gListU_tup, iOf_int, graphD, edD, optD, pvD, lvD, lvI, trD, Bool.xor_false, Bool.not_false, Bool.not_true]
    refine rng_go (by omega) ?_
    refine forD_go (fun xs ρ => ∃ (k m : Nat) (en : List (Nat × Nat)) (lo : Bool) (v5 v6 v7 : Option (Nat × D)), k + m = many ∧ xs = (List.range' k m).map natD ∧ en.length ≤ k ∧ (∀ e ∈ en, e.1 < count ∧ e.2 < count) ∧
      ρ = [some (0, .raw (.ref b)), some (0, natD count), some (0, natD many), some (1, .lst (en.map prD)), some (0, .bl lo), v5, v6, v7]) ?_ ?_ _ _ ⟨0, many, [], _, none, none, none, by omega, rfl, Nat.le_refl _, fun e h => (by cases h), rfl⟩
    · rintro x r ρ ⟨k, m, en, lo, v5, v6, v7, hk, ex, hl, hen, rfl⟩ N hN
      cases m with
      | zero => cases ex
      | succ m =>
        rw [List.range'_succ, List.map_cons] at ex
        injection ex with ex1 ex2
        subst ex1
        refine ⟨_, rfl, ?_⟩
        try simp only [ownLst, ownObj, mTake, mOf, fAndV, fOrV, fArgs, fCons, fNil, fVar_0, fVar_s, fUn, fBin, fBool, startE, envOf, slot, gSeq, frzE, gComp, gCompD, wipe_nil, wipe_cons, List.map_cons, List.map_nil, List.cons_append, List.nil_append, List.append_nil, true_and, and_true, List.set_cons_zero, List.set_cons_succ, List.length_cons, List.length_nil, List.replicate_succ, List.replicate_zero, Nat.reduceSub, Nat.reduceAdd, Nat.reduceLT, DEnds.fn, bOf_bl, eq_self, reduceIte, Bool.false_eq_true, gNotV_bl, Bool.not_true, Bool.not_false, g2I_int, g2I0_int, g1I_int, gLen_lst, gLen_tup, gInt_int, gMax2_int, gMin2_int, gIsN_non, gIsN_obj, gIsN_dT, gIsN_dK, gIsN_int, xsOf_lst, tsOf_tup, gIx_t0, gIx_t1, gIx_l0, gIx_l1, gIx_l2, gEqA_int, gEqA_str, gEqA_bl, gTup, gLst, Option.isSome_some, Bool.false_xor, Bool.true_xor, gFor, gNegI, gEqA_no, gIsN_lst, gIsN_tup, gIx_t2, Bool.not_not, dnE, dnL, decide_true, decide_false, gListL_lst, gTupL_lst, gListU_lst, gListU_tup, iOf_int, graphD, edD, optD, pvD, lvD, lvI, trD, Bool.xor_false, Bool.not_false, Bool.not_true]
        by_cases hc : 0 < count
        · rw [decide_eq_true (by omega)]
          try simp only [ownLst, ownObj, mTake, mOf, fAndV, fOrV, fArgs, fCons, fNil, fVar_0, fVar_s, fUn, fBin, fBool, startE, envOf, slot, gSeq, frzE, gComp, gCompD, wipe_nil, wipe_cons, List.map_cons, List.map_nil, List.cons_append, List.nil_append, List.append_nil, true_and, and_true, List.set_cons_zero, List.set_cons_succ, List.length_cons, List.length_nil, List.replicate_succ, List.replicate_zero, Nat.reduceSub, Nat.reduceAdd, Nat.reduceLT, DEnds.fn, bOf_bl, eq_self, reduceIte, Bool.false_eq_true, gNotV_bl, Bool.not_true, Bool.not_false, g2I_int, g2I0_int, g1I_int, gLen_lst, gLen_tup, gInt_int, gMax2_int, gMin2_int, gIsN_non, gIsN_obj, gIsN_dT, gIsN_dK, gIsN_int, xsOf_lst, tsOf_tup, gIx_t0, gIx_t1, gIx_l0, gIx_l1, gIx_l2, gEqA_int, gEqA_str, gEqA_bl, gTup, gLst, Option.isSome_some, Bool.false_xor, Bool.true_xor, gFor, gNegI, gEqA_no, gIsN_lst, gIsN_tup, gIx_t2, Bool.not_not, dnE, dnL, decide_true, decide_false, gListL_lst, gTupL_lst, gListU_lst, gListU_tup, iOf_int, graphD, edD, optD, pvD, lvD, lvI, trD, Bool.xor_false, Bool.not_false, Bool.not_true]
          refine drawN count hb hc (by omega) fun u hu => ?_
          try simp only [ownLst, ownObj, mTake, mOf, fAndV, fOrV, fArgs, fCons, fNil, fVar_0, fVar_s, fUn, fBin, fBool, startE, envOf, slot, gSeq, frzE, gComp, gCompD, wipe_nil, wipe_cons, List.map_cons, List.map_nil, List.cons_append, List.nil_append, List.append_nil, true_and, and_true, List.set_cons_zero, List.set_cons_succ, List.length_cons, List.length_nil, List.replicate_succ, List.replicate_zero, Nat.reduceSub, Nat.reduceAdd, Nat.reduceLT, DEnds.fn, bOf_bl, eq_self, reduceIte, Bool.false_eq_true, gNotV_bl, Bool.not_true, Bool.not_false, g2I_int, g2I0_int, g1I_int, gLen_lst, gLen_tup, gInt_int, gMax2_int, gMin2_int, gIsN_non, gIsN_obj, gIsN_dT, gIsN_dK, gIsN_int, xsOf_lst, tsOf_tup, gIx_t0, gIx_t1, gIx_l0, gIx_l1, gIx_l2, gEqA_int, gEqA_str, gEqA_bl, gTup, gLst, Option.isSome_some, Bool.false_xor, Bool.true_xor, gFor, gNegI, gEqA_no, gIsN_lst, gIsN_tup, gIx_t2, Bool.not_not, dnE, dnL, decide_true, decide_false, gListL_lst, gTupL_lst, gListU_lst, gListU_tup, iOf_int, graphD, edD, optD, pvD, lvD, lvI, trD, Bool.xor_false, Bool.not_false, Bool.not_true]
          refine drawN count hb hc (by omega) fun v hv => ?_
          try simp only [ownLst, ownObj, mTake, mOf, fAndV, fOrV, fArgs, fCons, fNil, fVar_0, fVar_s, fUn, fBin, fBool, startE, envOf, slot, gSeq, frzE, gComp, gCompD, wipe_nil, wipe_cons, List.map_cons, List.map_nil, List.cons_append, List.nil_append, List.append_nil, true_and, and_true, List.set_cons_zero, List.set_cons_succ, List.length_cons, List.length_nil, List.replicate_succ, List.replicate_zero, Nat.reduceSub, Nat.reduceAdd, Nat.reduceLT, DEnds.fn, bOf_bl, eq_self, reduceIte, Bool.false_eq_true, gNotV_bl, Bool.not_true, Bool.not_false, g2I_int, g2I0_int, g1I_int, gLen_lst, gLen_tup, gInt_int, gMax2_int, gMin2_int, gIsN_non, gIsN_obj, gIsN_dT, gIsN_dK, gIsN_int, xsOf_lst, tsOf_tup, gIx_t0, gIx_t1, gIx_l0, gIx_l1, gIx_l2, gEqA_int, gEqA_str, gEqA_bl, gTup, gLst, Option.isSome_some, Bool.false_xor, Bool.true_xor, gFor, gNegI, gEqA_no, gIsN_lst, gIsN_tup, gIx_t2, Bool.not_not, dnE, dnL, decide_true, decide_false, gListL_lst, gTupL_lst, gListU_lst, gListU_tup, iOf_int, graphD, edD, optD, pvD, lvD, lvI, trD, Bool.xor_false, Bool.not_false, Bool.not_true]
          have put : ∀ w, w < count → ∀ v5 v6 v7, N [some (0, .raw (.ref b)), some (0, natD count), some (0, natD many), some (1, .lst (en.map prD ++ [.tup [natD u, natD w]])), some (0, .bl lo), v5, v6, v7] := fun w hw v5 v6 v7 => by
            refine hN _ ⟨k + 1, m, en ++ [(u, w)], lo, v5, v6, v7, by omega, ex2, by rw [List.length_append, List.length_singleton]; omega, fun e he => ?_, by rw [List.map_append]; rfl⟩
            rcases List.mem_append.mp he with z | z
            · exact hen e z
            · rw [List.mem_singleton.mp z]; exact ⟨hu, hw⟩
          have sz1 : (en.map prD).length < sizeLine := by rw [List.length_map, szL]; omega
          by_cases q : v = u
          · rw [decide_eq_true q]
            try simp only [ownLst, ownObj, mTake, mOf, fAndV, fOrV, fArgs, fCons, fNil, fVar_0, fVar_s, fUn, fBin, fBool, startE, envOf, slot, gSeq, frzE, gComp, gCompD, wipe_nil, wipe_cons, List.map_cons, List.map_nil, List.cons_append, List.nil_append, List.append_nil, true_and, and_true, List.set_cons_zero, List.set_cons_succ, List.length_cons, List.length_nil, List.replicate_succ, List.replicate_zero, Nat.reduceSub, Nat.reduceAdd, Nat.reduceLT, DEnds.fn, bOf_bl, eq_self, reduceIte, Bool.false_eq_true, gNotV_bl, Bool.not_true, Bool.not_false, g2I_int, g2I0_int, g1I_int, gLen_lst, gLen_tup, gInt_int, gMax2_int, gMin2_int, gIsN_non, gIsN_obj, gIsN_dT, gIsN_dK, gIsN_int, xsOf_lst, tsOf_tup, gIx_t0, gIx_t1, gIx_l0, gIx_l1, gIx_l2, gEqA_int, gEqA_str, gEqA_bl, gTup, gLst, Option.isSome_some, Bool.false_xor, Bool.true_xor, gFor, gNegI, gEqA_no, gIsN_lst, gIsN_tup, gIx_t2, Bool.not_not, dnE, dnL, decide_true, decide_false, gListL_lst, gTupL_lst, gListU_lst, gListU_tup, iOf_int, graphD, edD, optD, pvD, lvD, lvI, trD, Bool.xor_false, Bool.not_false, Bool.not_true]
            cases lo with
            | true =>
              try simp only [ownLst, ownObj, mTake, mOf, fAndV, fOrV, fArgs, fCons, fNil, fVar_0, fVar_s, fUn, fBin, fBool, startE, envOf, slot, gSeq, frzE, gComp, gCompD, wipe_nil, wipe_cons, List.map_cons, List.map_nil, List.cons_append, List.nil_append, List.append_nil, true_and, and_true, List.set_cons_zero, List.set_cons_succ, List.length_cons, List.length_nil, List.replicate_succ, List.replicate_zero, Nat.reduceSub, Nat.reduceAdd, Nat.reduceLT, DEnds.fn, bOf_bl, eq_self, reduceIte, Bool.false_eq_true, gNotV_bl, Bool.not_true, Bool.not_false, g2I_int, g2I0_int, g1I_int, gLen_lst, gLen_tup, gInt_int, gMax2_int, gMin2_int, gIsN_non, gIsN_obj, gIsN_dT, gIsN_dK, gIsN_int, xsOf_lst, tsOf_tup, gIx_t0, gIx_t1, gIx_l0, gIx_l1, gIx_l2, gEqA_int, gEqA_str, gEqA_bl, gTup, gLst, Option.isSome_some, Bool.false_xor, Bool.true_xor, gFor, gNegI, gEqA_no, gIsN_lst, gIsN_tup, gIx_t2, Bool.not_not, dnE, dnL, decide_true, decide_false, gListL_lst, gTupL_lst, gListU_lst, gListU_tup, iOf_int, graphD, edD, optD, pvD, lvD, lvI, trD, Bool.xor_false, Bool.not_false, Bool.not_true]
              exact ⟨by decide, sz1, put v hv _ _ _⟩
            | false =>
              try simp only [ownLst, ownObj, mTake, mOf, fAndV, fOrV, fArgs, fCons, fNil, fVar_0, fVar_s, fUn, fBin, fBool, startE, envOf, slot, gSeq, frzE, gComp, gCompD, wipe_nil, wipe_cons, List.map_cons, List.map_nil, List.cons_append, List.nil_append, List.append_nil, true_and, and_true, List.set_cons_zero, List.set_cons_succ, List.length_cons, List.length_nil, List.replicate_succ, List.replicate_zero, Nat.reduceSub, Nat.reduceAdd, Nat.reduceLT, DEnds.fn, bOf_bl, eq_self, reduceIte, Bool.false_eq_true, gNotV_bl, Bool.not_true, Bool.not_false, g2I_int, g2I0_int, g1I_int, gLen_lst, gLen_tup, gInt_int, gMax2_int, gMin2_int, gIsN_non, gIsN_obj, gIsN_dT, gIsN_dK, gIsN_int, xsOf_lst, tsOf_tup, gIx_t0, gIx_t1, gIx_l0, gIx_l1, gIx_l2, gEqA_int, gEqA_str, gEqA_bl, gTup, gLst, Option.isSome_some, Bool.false_xor, Bool.true_xor, gFor, gNegI, gEqA_no, gIsN_lst, gIsN_tup, gIx_t2, Bool.not_not, dnE, dnL, decide_true, decide_false, gListL_lst, gTupL_lst, gListU_lst, gListU_tup, iOf_int, graphD, edD, optD, pvD, lvD, lvI, trD, Bool.xor_false, Bool.not_false, Bool.not_true]
              refine ⟨by omega, ⟨by decide, sz1, ?_⟩⟩
              rw [show ((u : Int) + 1) % (count : Int) = (((u + 1) % count : Nat) : Int) from rfl]
              exact put ((u + 1) % count) (Nat.mod_lt _ hc) _ _ _
          · rw [decide_eq_false q]
            try simp only [ownLst, ownObj, mTake, mOf, fAndV, fOrV, fArgs, fCons, fNil, fVar_0, fVar_s, fUn, fBin, fBool, startE, envOf, slot, gSeq, frzE, gComp, gCompD, wipe_nil, wipe_cons, List.map_cons, List.map_nil, List.cons_append, List.nil_append, List.append_nil, true_and, and_true, List.set_cons_zero, List.set_cons_succ, List.length_cons, List.length_nil, List.replicate_succ, List.replicate_zero, Nat.reduceSub, Nat.reduceAdd, Nat.reduceLT, DEnds.fn, bOf_bl, eq_self, reduceIte, Bool.false_eq_true, gNotV_bl, Bool.not_true, Bool.not_false, g2I_int, g2I0_int, g1I_int, gLen_lst, gLen_tup, gInt_int, gMax2_int, gMin2_int, gIsN_non, gIsN_obj, gIsN_dT, gIsN_dK, gIsN_int, xsOf_lst, tsOf_tup, gIx_t0, gIx_t1, gIx_l0, gIx_l1, gIx_l2, gEqA_int, gEqA_str, gEqA_bl, gTup, gLst, Option.isSome_some, Bool.false_xor, Bool.true_xor, gFor, gNegI, gEqA_no, gIsN_lst, gIsN_tup, gIx_t2, Bool.not_not, dnE, dnL, decide_true, decide_false, gListL_lst, gTupL_lst, gListU_lst, gListU_tup, iOf_int, graphD, edD, optD, pvD, lvD, lvI, trD, Bool.xor_false, Bool.not_false, Bool.not_true]
            exact ⟨by decide, sz1, put v hv _ _ _⟩
        · rw [decide_eq_false (by omega)]
          try simp only [ownLst, ownObj, mTake, mOf, fAndV, fOrV, fArgs, fCons, fNil, fVar_0, fVar_s, fUn, fBin, fBool, startE, envOf, slot, gSeq, frzE, gComp, gCompD, wipe_nil, wipe_cons, List.map_cons, List.map_nil, List.cons_append, List.nil_append, List.append_nil, true_and, and_true, List.set_cons_zero, List.set_cons_succ, List.length_cons, List.length_nil, List.replicate_succ, List.replicate_zero, Nat.reduceSub, Nat.reduceAdd, Nat.reduceLT, DEnds.fn, bOf_bl, eq_self, reduceIte, Bool.false_eq_true, gNotV_bl, Bool.not_true, Bool.not_false, g2I_int, g2I0_int, g1I_int, gLen_lst, gLen_tup, gInt_int, gMax2_int, gMin2_int, gIsN_non, gIsN_obj, gIsN_dT, gIsN_dK, gIsN_int, xsOf_lst, tsOf_tup, gIx_t0, gIx_t1, gIx_l0, gIx_l1, gIx_l2, gEqA_int, gEqA_str, gEqA_bl, gTup, gLst, Option.isSome_some, Bool.false_xor, Bool.true_xor, gFor, gNegI, gEqA_no, gIsN_lst, gIsN_tup, gIx_t2, Bool.not_not, dnE, dnL, decide_true, decide_false, gListL_lst, gTupL_lst, gListU_lst, gListU_tup, iOf_int, graphD, edD, optD, pvD, lvD, lvI, trD, Bool.xor_false, Bool.not_false, Bool.not_true]
          exact hN _ ⟨k + 1, m, en, lo, _, _, _, by omega, ex2, by omega, hen, rfl⟩
    · rintro ρ ⟨k, m, en, lo, v5, v6, v7, hk, ex, hl, hen, rfl⟩
      cases m with
      | succ m => cases ex
      | zero =>
        try simp only [ownLst, ownObj, mTake, mOf, fAndV, fOrV, fArgs, fCons, fNil, fVar_0, fVar_s, fUn, fBin, fBool, startE, envOf, slot, gSeq, frzE, gComp, gCompD, wipe_nil, wipe_cons, List.map_cons, List.map_nil, List.cons_append, List.nil_append, List.append_nil, true_and, and_true, List.set_cons_zero, List.set_cons_succ, List.length_cons, List.length_nil, List.replicate_succ, List.replicate_zero, Nat.reduceSub, Nat.reduceAdd, Nat.reduceLT, DEnds.fn, bOf_bl, eq_self, reduceIte, Bool.false_eq_true, gNotV_bl, Bool.not_true, Bool.not_false, g2I_int, g2I0_int, g1I_int, gLen_lst, gLen_tup, gInt_int, gMax2_int, gMin2_int, gIsN_non, gIsN_obj, gIsN_dT, gIsN_dK, gIsN_int, xsOf_lst, tsOf_tup, gIx_t0, gIx_t1, gIx_l0, gIx_l1, gIx_l2, gEqA_int, gEqA_str, gEqA_bl, gTup, gLst, Option.isSome_some, Bool.false_xor, Bool.true_xor, gFor, gNegI, gEqA_no, gIsN_lst, gIsN_tup, gIx_t2, Bool.not_not, dnE, dnL, decide_true, decide_false, gListL_lst, gTupL_lst, gListU_lst, gListU_tup, iOf_int, graphD, edD, optD, pvD, lvD, lvI, trD, Bool.xor_false, Bool.not_false, Bool.not_true]
        exact hR en (by omega) hen
abbrev s_law_small : Stmt := topS 12
theorem sc_law_small : FnScope ["bag", "count", "many", "ends", "mode", "scale", "end", "mores", "k", "prices"] ["bag", "count", "many"] (defScope s_law_small) := ⟨rfl, rfl, rfl, by decide +kernel, rfl, by decide +kernel, by decide +kernel⟩
theorem ok_law_small {f : Addr} {fd : FuncData} (F : Fun K "_law_small" "_law_small" s_law_small f fd) (T : Bi mg) (c_law_draw : Cal P w K mg base "_law_draw" 1 ["bag", "size"] (.own 0) [] wDraw) (c_law_ends : Cal P w K mg base "_law_ends" 2 ["bag", "count", "many"] (.own 0) [] w_law_ends) : FnOk P w K mg base CX0 3 f fd ["bag", "count", "many"] (spD K (.own 0) w_law_small) := by
  refine Fun_okD F sc_law_small (fun _ _ _ h => by obtain ⟨_, _, _, _, e, _, _, _⟩ := h; rw [e]; rfl) fun B cdv A outer s H E hr => ⟨_, (ds_cons (ds_setM 3 0 sc_law_small.nd rfl (by first | exact Or.inl rfl | exact Or.inr rfl) (by decide) (dm_of (de_C c_law_ends hr (da_cons (m := .own 0) (de_v 0) (da_cons (m := .own 0) (de_v 1) (da_cons (m := .own 0) (de_v 2) da_nil))))))
(ds_cons (ds_setM 4 0 sc_law_small.nd rfl (by first | exact Or.inl rfl | exact Or.inr rfl) (by decide) (dm_of (de_C c_law_draw hr (da_cons (m := .own 0) (de_v 0) (da_cons (m := .own 0) (de_int (m := .own 0)) da_nil)))))
(ds_cons (ds_if (dt_eq (de_v 4) (de_int (m := .rd)))
(ds_cons (ds_setM 5 0 sc_law_small.nd rfl (by first | exact Or.inl rfl | exact Or.inr rfl) (by decide) (dm_of (de_at (de_frz (de_lst 0 (da_cons (m := .own 0) (de_int (m := .own 0)) (da_cons (m := .own 0) (de_int (m := .own 0)) (da_cons (m := .own 0) (de_int (m := .own 0)) (da_cons (m := .own 0) (de_int (m := .own 0)) (da_cons (m := .own 0) (de_int (m := .own 0)) da_nil))))))) (de_C c_law_draw hr (da_cons (m := .own 0) (de_v 0) (da_cons (m := .own 0) (de_int (m := .own 0)) da_nil))))))
(ds_one (ds_retM (dm_of (de_frz (de_lc (own := [("end", 6)]) 0 rfl sc_law_small.nd (di_list (de_v 3)) (blk_of ["bag", "count", "many", "ends", "mode", "scale", "end", "mores", "k", "prices"] (defScope s_law_small) rfl (by decide +kernel) (by decide +kernel) (by decide +kernel) (by decide +kernel)) (dgc_name 6 sc_law_small.nd rfl) (hol_cons rfl (fun _ _ => rfl) hol_nil) (fun _ _ _ _ _ => dts_nil) (fun _ _ _ _ _ => (de_tup (da_cons (m := .own 0) (de_at (de_v 6) (de_int (m := .rd))) (da_cons (m := .own 0) (de_at (de_v 6) (de_int (m := .rd))) (da_cons (m := .own 0) (de_mul (m := .own 0) (de_v 5) (de_sub (m := .rd) (de_C c_law_draw hr (da_cons (m := .own 0) (de_v 0) (da_cons (m := .own 0) (de_int (m := .own 0)) da_nil))) (de_int (m := .rd)))) da_nil)))))))))))
ds_nil)
(ds_cons (ds_setM 7 0 sc_law_small.nd rfl (by first | exact Or.inl rfl | exact Or.inr rfl) (by decide) (dm_of (de_frz (de_lst 0 (da_cons (m := .own 0) (de_int (m := .own 0)) (da_cons (m := .own 0) (de_int (m := .own 0)) (da_cons (m := .own 0) (de_int (m := .own 0)) (da_cons (m := .own 0) (de_int (m := .own 0)) (da_cons (m := .own 0) (de_int (m := .own 0)) (da_cons (m := .own 0) (de_int (m := .own 0)) da_nil))))))))))
(ds_cons (ds_if (dt_eq (de_v 4) (de_int (m := .rd)))
(ds_one (ds_setM 7 0 sc_law_small.nd rfl (by first | exact Or.inl rfl | exact Or.inr rfl) (by decide) (dm_of (de_frz (de_lst 0 (da_cons (m := .own 0) (de_sub (m := .own 0) (de_int (m := .rd)) (de_int (m := .rd))) (da_cons (m := .own 0) (de_int (m := .own 0)) (da_cons (m := .own 0) (de_int (m := .own 0)) (da_cons (m := .own 0) (de_int (m := .own 0)) (da_cons (m := .own 0) (de_int (m := .own 0)) (da_cons (m := .own 0) (de_int (m := .own 0)) da_nil)))))))))))
ds_nil)
(ds_cons (ds_setM 9 0 sc_law_small.nd rfl (by first | exact Or.inl rfl | exact Or.inr rfl) (by decide) (dm_of (de_frz (de_lc (own := [("k", 8)]) 0 rfl sc_law_small.nd (di_range T.range_ (de_v 1)) (blk_of ["bag", "count", "many", "ends", "mode", "scale", "end", "mores", "k", "prices"] (defScope s_law_small) rfl (by decide +kernel) (by decide +kernel) (by decide +kernel) (by decide +kernel)) (dgc_name 8 sc_law_small.nd rfl) (hol_cons rfl (fun _ _ => rfl) hol_nil) (fun _ _ _ _ _ => dts_nil) (fun _ _ _ _ _ => (de_C c_law_draw hr (da_cons (m := .own 0) (de_v 0) (da_cons (m := .own 0) (de_int (m := .own 0)) da_nil))))))))
(ds_one (ds_retM (dm_of (de_frz (de_lc (own := [("end", 6)]) 0 rfl sc_law_small.nd (di_list (de_v 3)) (blk_of ["bag", "count", "many", "ends", "mode", "scale", "end", "mores", "k", "prices"] (defScope s_law_small) rfl (by decide +kernel) (by decide +kernel) (by decide +kernel) (by decide +kernel)) (dgc_name 6 sc_law_small.nd rfl) (hol_cons rfl (fun _ _ => rfl) hol_nil) (fun _ _ _ _ _ => dts_nil) (fun _ _ _ _ _ => (de_tup (da_cons (m := .own 0) (de_at (de_v 6) (de_int (m := .rd))) (da_cons (m := .own 0) (de_at (de_v 6) (de_int (m := .rd))) (da_cons (m := .own 0) (de_add (m := .own 0) (de_sub (m := .rd) (de_at (de_v 9) (de_at (de_v 6) (de_int (m := .rd)))) (de_at (de_v 9) (de_at (de_v 6) (de_int (m := .rd))))) (de_at (de_v 7) (de_C c_law_draw hr (da_cons (m := .own 0) (de_v 0) (da_cons (m := .own 0) (de_int (m := .own 0)) da_nil))))) da_nil)))))))))))))))), fun ds R ⟨b, count, many, hb, e, h1, h2, hR⟩ => ?_⟩
  subst e
  try simp only [ownLst, ownObj, mTake, mOf, fAndV, fOrV, fArgs, fCons, fNil, fVar_0, fVar_s, fUn, fBin, fBool, startE, envOf, slot, gSeq, frzE, gComp, gCompD, wipe_nil, wipe_cons, List.map_cons, List.map_nil, List.cons_append, List.nil_append, List.append_nil, true_and, and_true, List.set_cons_zero, List.set_cons_succ, List.length_cons, List.length_nil, List.replicate_succ, List.replicate_zero, Nat.reduceSub, Nat.reduceAdd, Nat.reduceLT, DEnds.fn, bOf_bl, eq_self, reduceIte, Bool.false_eq_true, gNotV_bl, Bool.not_true, Bool.not_false, g2I_int, g2I0_int, g1I_int, gLen_lst, gLen_tup, gInt_int, gMax2_int, gMin2_int, gIsN_non, gIsN_obj, gIsN_dT, gIsN_dK, gIsN_int, xsOf_lst, tsOf_tup, gIx_t0, gIx_t1, gIx_l0, gIx_l1, gIx_l2, gEqA_int, gEqA_str, gEqA_bl, gTup, gLst, Option.isSome_some, Bool.false_xor, Bool.true_xor, gFor, gNegI, gEqA_no, gIsN_lst, gIsN_tup, gIx_t2, Bool.not_not, dnE, dnL, decide_true, decide_false, gListL_lst, gTupL_lst, gListU_lst, gListU_tup, iOf_int, graphD, edD, optD, pvD, lvD, lvI, trD, Bool.xor_false, Bool.not_false, Bool.not_true]
  refine ⟨b, count, many, hb, rfl, h1, h2, fun en hl hen => ?_⟩
  refine drawN 3 hb (by decide) (by decide) fun mode hm => ?_
  try simp only [ownLst, ownObj, mTake, mOf, fAndV, fOrV, fArgs, fCons, fNil, fVar_0, fVar_s, fUn, fBin, fBool, startE, envOf, slot, gSeq, frzE, gComp, gCompD, wipe_nil, wipe_cons, List.map_cons, List.map_nil, List.cons_append, List.nil_append, List.append_nil, true_and, and_true, List.set_cons_zero, List.set_cons_succ, List.length_cons, List.length_nil, List.replicate_succ, List.replicate_zero, Nat.reduceSub, Nat.reduceAdd, Nat.reduceLT, DEnds.fn, bOf_bl, eq_self, reduceIte, Bool.false_eq_true, gNotV_bl, Bool.not_true, Bool.not_false, g2I_int, g2I0_int, g1I_int, gLen_lst, gLen_tup, gInt_int, gMax2_int, gMin2_int, gIsN_non, gIsN_obj, gIsN_dT, gIsN_dK, gIsN_int, xsOf_lst, tsOf_tup, gIx_t0, gIx_t1, gIx_l0, gIx_l1, gIx_l2, gEqA_int, gEqA_str, gEqA_bl, gTup, gLst, Option.isSome_some, Bool.false_xor, Bool.true_xor, gFor, gNegI, gEqA_no, gIsN_lst, gIsN_tup, gIx_t2, Bool.not_not, dnE, dnL, decide_true, decide_false, gListL_lst, gTupL_lst, gListU_lst, gListU_tup, iOf_int, graphD, edD, optD, pvD, lvD, lvI, trD, Bool.xor_false, Bool.not_false, Bool.not_true]
  have START : ∀ {fe : FE} {ρ : Env}, (∀ (e : Nat × Nat), e.1 < count ∧ e.2 < count → ∀ N : D → Prop, (∀ c : Int, N (edD (e.1, e.2, c))) → ∃ ρ', tgN 6 (prD e) ρ = some ρ' ∧ fe ρ' N) → compD (tgN 6) (fun _ R => R true) fe ρ (en.map prD) [] fun d => R d := fun {fe ρ} hs => by
    refine compD_go (fun xs acc => ∃ (rs : List (Nat × Nat)) (es : List Ed), xs = rs.map prD ∧ acc = edsD es ∧ es.length + rs.length = en.length ∧ (∀ e ∈ rs, e.1 < count ∧ e.2 < count) ∧ Wf es count) ?_ ?_ _ _ ⟨en, [], rfl, rfl, by rw [List.length_nil]; omega, hen, fun e h => (by cases h)⟩
    · rintro x r acc ⟨rs, es, ex, rfl, hl2, hr, hw⟩ N hN
      cases rs with
      | nil => cases ex
      | cons e rs =>
        rw [List.map_cons] at ex
        injection ex with ex1 ex2
        subst ex1
        rw [List.length_cons] at hl2
        obtain ⟨ρ', q1, q2⟩ := hs e (hr e List.mem_cons_self) (fun y => (edsD es).length < sizeLine ∧ N (edsD es ++ [y])) fun c => ⟨by
          show (es.map edD).length < sizeLine
          rw [List.length_map, szL]; omega, hN _ ⟨rs, es ++ [(e.1, e.2, c)], ex2, by show _ = (es ++ [(e.1, e.2, c)]).map edD; rw [List.map_append]; rfl, by rw [List.length_append, List.length_singleton]; omega, fun e z => hr e (List.mem_cons_of_mem _ z), fun z hz => (List.mem_append.mp hz).elim (hw z) fun y => by rw [List.mem_singleton.mp y]; exact hr e List.mem_cons_self⟩⟩
        refine ⟨ρ', q1, ?_⟩
        dsimp only
        rw [if_pos rfl]
        exact q2
    · rintro acc ⟨rs, es, ex, rfl, hl2, hr, hw⟩
      exact hR es (by omega) hw
  by_cases m0 : (mode : Int) = 0
  · rw [decide_eq_true m0]
    try simp only [ownLst, ownObj, mTake, mOf, fAndV, fOrV, fArgs, fCons, fNil, fVar_0, fVar_s, fUn, fBin, fBool, startE, envOf, slot, gSeq, frzE, gComp, gCompD, wipe_nil, wipe_cons, List.map_cons, List.map_nil, List.cons_append, List.nil_append, List.append_nil, true_and, and_true, List.set_cons_zero, List.set_cons_succ, List.length_cons, List.length_nil, List.replicate_succ, List.replicate_zero, Nat.reduceSub, Nat.reduceAdd, Nat.reduceLT, DEnds.fn, bOf_bl, eq_self, reduceIte, Bool.false_eq_true, gNotV_bl, Bool.not_true, Bool.not_false, g2I_int, g2I0_int, g1I_int, gLen_lst, gLen_tup, gInt_int, gMax2_int, gMin2_int, gIsN_non, gIsN_obj, gIsN_dT, gIsN_dK, gIsN_int, xsOf_lst, tsOf_tup, gIx_t0, gIx_t1, gIx_l0, gIx_l1, gIx_l2, gEqA_int, gEqA_str, gEqA_bl, gTup, gLst, Option.isSome_some, Bool.false_xor, Bool.true_xor, gFor, gNegI, gEqA_no, gIsN_lst, gIsN_tup, gIx_t2, Bool.not_not, dnE, dnL, decide_true, decide_false, gListL_lst, gTupL_lst, gListU_lst, gListU_tup, iOf_int, graphD, edD, optD, pvD, lvD, lvI, trD, Bool.xor_false, Bool.not_false, Bool.not_true]
    refine ⟨by decide, drawN 5 hb (by decide) (by decide) fun j hj => ?_⟩
    obtain ⟨sc, gsc, sc1, sc2⟩ : ∃ sc : Int, ([D.int 1, D.int 1, D.int 1, D.int 1000000007, D.int 100000000003] : List D)[j]? = some (.int sc) ∧ 0 < sc ∧ sc < 2 ^ 62 := by
      have : j = 0 ∨ j = 1 ∨ j = 2 ∨ j = 3 ∨ j = 4 := by omega
      rcases this with rfl | rfl | rfl | rfl | rfl
      · exact ⟨_, rfl, by decide, by decide⟩
      · exact ⟨_, rfl, by decide, by decide⟩
      · exact ⟨_, rfl, by decide, by decide⟩
      · exact ⟨_, rfl, by decide, by decide⟩
      · exact ⟨_, rfl, by decide, by decide⟩
    refine gIx_nat gsc ?_
    try simp only [ownLst, ownObj, mTake, mOf, fAndV, fOrV, fArgs, fCons, fNil, fVar_0, fVar_s, fUn, fBin, fBool, startE, envOf, slot, gSeq, frzE, gComp, gCompD, wipe_nil, wipe_cons, List.map_cons, List.map_nil, List.cons_append, List.nil_append, List.append_nil, true_and, and_true, List.set_cons_zero, List.set_cons_succ, List.length_cons, List.length_nil, List.replicate_succ, List.replicate_zero, Nat.reduceSub, Nat.reduceAdd, Nat.reduceLT, DEnds.fn, bOf_bl, eq_self, reduceIte, Bool.false_eq_true, gNotV_bl, Bool.not_true, Bool.not_false, g2I_int, g2I0_int, g1I_int, gLen_lst, gLen_tup, gInt_int, gMax2_int, gMin2_int, gIsN_non, gIsN_obj, gIsN_dT, gIsN_dK, gIsN_int, xsOf_lst, tsOf_tup, gIx_t0, gIx_t1, gIx_l0, gIx_l1, gIx_l2, gEqA_int, gEqA_str, gEqA_bl, gTup, gLst, Option.isSome_some, Bool.false_xor, Bool.true_xor, gFor, gNegI, gEqA_no, gIsN_lst, gIsN_tup, gIx_t2, Bool.not_not, dnE, dnL, decide_true, decide_false, gListL_lst, gTupL_lst, gListU_lst, gListU_tup, iOf_int, graphD, edD, optD, pvD, lvD, lvI, trD, Bool.xor_false, Bool.not_false, Bool.not_true]
    refine START fun e he N hN => ⟨_, rfl, ?_⟩
    unfold prD
    try simp only [ownLst, ownObj, mTake, mOf, fAndV, fOrV, fArgs, fCons, fNil, fVar_0, fVar_s, fUn, fBin, fBool, startE, envOf, slot, gSeq, frzE, gComp, gCompD, wipe_nil, wipe_cons, List.map_cons, List.map_nil, List.cons_append, List.nil_append, List.append_nil, true_and, and_true, List.set_cons_zero, List.set_cons_succ, List.length_cons, List.length_nil, List.replicate_succ, List.replicate_zero, Nat.reduceSub, Nat.reduceAdd, Nat.reduceLT, DEnds.fn, bOf_bl, eq_self, reduceIte, Bool.false_eq_true, gNotV_bl, Bool.not_true, Bool.not_false, g2I_int, g2I0_int, g1I_int, gLen_lst, gLen_tup, gInt_int, gMax2_int, gMin2_int, gIsN_non, gIsN_obj, gIsN_dT, gIsN_dK, gIsN_int, xsOf_lst, tsOf_tup, gIx_t0, gIx_t1, gIx_l0, gIx_l1, gIx_l2, gEqA_int, gEqA_str, gEqA_bl, gTup, gLst, Option.isSome_some, Bool.false_xor, Bool.true_xor, gFor, gNegI, gEqA_no, gIsN_lst, gIsN_tup, gIx_t2, Bool.not_not, dnE, dnL, decide_true, decide_false, gListL_lst, gTupL_lst, gListU_lst, gListU_tup, iOf_int, graphD, edD, optD, pvD, lvD, lvI, trD, Bool.xor_false, Bool.not_false, Bool.not_true]
    refine drawN 15 hb (by decide) (by decide) fun d hd => ?_
    try simp only [ownLst, ownObj, mTake, mOf, fAndV, fOrV, fArgs, fCons, fNil, fVar_0, fVar_s, fUn, fBin, fBool, startE, envOf, slot, gSeq, frzE, gComp, gCompD, wipe_nil, wipe_cons, List.map_cons, List.map_nil, List.cons_append, List.nil_append, List.append_nil, true_and, and_true, List.set_cons_zero, List.set_cons_succ, List.length_cons, List.length_nil, List.replicate_succ, List.replicate_zero, Nat.reduceSub, Nat.reduceAdd, Nat.reduceLT, DEnds.fn, bOf_bl, eq_self, reduceIte, Bool.false_eq_true, gNotV_bl, Bool.not_true, Bool.not_false, g2I_int, g2I0_int, g1I_int, gLen_lst, gLen_tup, gInt_int, gMax2_int, gMin2_int, gIsN_non, gIsN_obj, gIsN_dT, gIsN_dK, gIsN_int, xsOf_lst, tsOf_tup, gIx_t0, gIx_t1, gIx_l0, gIx_l1, gIx_l2, gEqA_int, gEqA_str, gEqA_bl, gTup, gLst, Option.isSome_some, Bool.false_xor, Bool.true_xor, gFor, gNegI, gEqA_no, gIsN_lst, gIsN_tup, gIx_t2, Bool.not_not, dnE, dnL, decide_true, decide_false, gListL_lst, gTupL_lst, gListU_lst, gListU_tup, iOf_int, graphD, edD, optD, pvD, lvD, lvI, trD, Bool.xor_false, Bool.not_false, Bool.not_true]
    exact ⟨.inl ⟨by omega, by omega⟩, by decide, hN _⟩
  · rw [decide_eq_false m0]
    try simp only [ownLst, ownObj, mTake, mOf, fAndV, fOrV, fArgs, fCons, fNil, fVar_0, fVar_s, fUn, fBin, fBool, startE, envOf, slot, gSeq, frzE, gComp, gCompD, wipe_nil, wipe_cons, List.map_cons, List.map_nil, List.cons_append, List.nil_append, List.append_nil, true_and, and_true, List.set_cons_zero, List.set_cons_succ, List.length_cons, List.length_nil, List.replicate_succ, List.replicate_zero, Nat.reduceSub, Nat.reduceAdd, Nat.reduceLT, DEnds.fn, bOf_bl, eq_self, reduceIte, Bool.false_eq_true, gNotV_bl, Bool.not_true, Bool.not_false, g2I_int, g2I0_int, g1I_int, gLen_lst, gLen_tup, gInt_int, gMax2_int, gMin2_int, gIsN_non, gIsN_obj, gIsN_dT, gIsN_dK, gIsN_int, xsOf_lst, tsOf_tup, gIx_t0, gIx_t1, gIx_l0, gIx_l1, gIx_l2, gEqA_int, gEqA_str, gEqA_bl, gTup, gLst, Option.isSome_some, Bool.false_xor, Bool.true_xor, gFor, gNegI, gEqA_no, gIsN_lst, gIsN_tup, gIx_t2, Bool.not_not, dnE, dnL, decide_true, decide_false, gListL_lst, gTupL_lst, gListU_lst, gListU_tup, iOf_int, graphD, edD, optD, pvD, lvD, lvI, trD, Bool.xor_false, Bool.not_false, Bool.not_true]
    refine ⟨by decide, ?_⟩
    by_cases m1 : (mode : Int) = 1
    case' pos => rw [decide_eq_true m1]
    case' neg => rw [decide_eq_false m1]
    case' pos =>
      try simp only [ownLst, ownObj, mTake, mOf, fAndV, fOrV, fArgs, fCons, fNil, fVar_0, fVar_s, fUn, fBin, fBool, startE, envOf, slot, gSeq, frzE, gComp, gCompD, wipe_nil, wipe_cons, List.map_cons, List.map_nil, List.cons_append, List.nil_append, List.append_nil, true_and, and_true, List.set_cons_zero, List.set_cons_succ, List.length_cons, List.length_nil, List.replicate_succ, List.replicate_zero, Nat.reduceSub, Nat.reduceAdd, Nat.reduceLT, DEnds.fn, bOf_bl, eq_self, reduceIte, Bool.false_eq_true, gNotV_bl, Bool.not_true, Bool.not_false, g2I_int, g2I0_int, g1I_int, gLen_lst, gLen_tup, gInt_int, gMax2_int, gMin2_int, gIsN_non, gIsN_obj, gIsN_dT, gIsN_dK, gIsN_int, xsOf_lst, tsOf_tup, gIx_t0, gIx_t1, gIx_l0, gIx_l1, gIx_l2, gEqA_int, gEqA_str, gEqA_bl, gTup, gLst, Option.isSome_some, Bool.false_xor, Bool.true_xor, gFor, gNegI, gEqA_no, gIsN_lst, gIsN_tup, gIx_t2, Bool.not_not, dnE, dnL, decide_true, decide_false, gListL_lst, gTupL_lst, gListU_lst, gListU_tup, iOf_int, graphD, edD, optD, pvD, lvD, lvI, trD, Bool.xor_false, Bool.not_false, Bool.not_true]
      refine ⟨by decide, ?_⟩
    all_goals
      try simp only [ownLst, ownObj, mTake, mOf, fAndV, fOrV, fArgs, fCons, fNil, fVar_0, fVar_s, fUn, fBin, fBool, startE, envOf, slot, gSeq, frzE, gComp, gCompD, wipe_nil, wipe_cons, List.map_cons, List.map_nil, List.cons_append, List.nil_append, List.append_nil, true_and, and_true, List.set_cons_zero, List.set_cons_succ, List.length_cons, List.length_nil, List.replicate_succ, List.replicate_zero, Nat.reduceSub, Nat.reduceAdd, Nat.reduceLT, DEnds.fn, bOf_bl, eq_self, reduceIte, Bool.false_eq_true, gNotV_bl, Bool.not_true, Bool.not_false, g2I_int, g2I0_int, g1I_int, gLen_lst, gLen_tup, gInt_int, gMax2_int, gMin2_int, gIsN_non, gIsN_obj, gIsN_dT, gIsN_dK, gIsN_int, xsOf_lst, tsOf_tup, gIx_t0, gIx_t1, gIx_l0, gIx_l1, gIx_l2, gEqA_int, gEqA_str, gEqA_bl, gTup, gLst, Option.isSome_some, Bool.false_xor, Bool.true_xor, gFor, gNegI, gEqA_no, gIsN_lst, gIsN_tup, gIx_t2, Bool.not_not, dnE, dnL, decide_true, decide_false, gListL_lst, gTupL_lst, gListU_lst, gListU_tup, iOf_int, graphD, edD, optD, pvD, lvD, lvI, trD, Bool.xor_false, Bool.not_false, Bool.not_true]
      refine rng_go (by omega) ?_
      refine compD_go (fun xs acc => ∃ (k m : Nat) (ps : List Int), k + m = count ∧ xs = (List.range' k m).map natD ∧ acc = ps.map .int ∧ ps.length = k) ?_ ?_ _ _ ⟨0, count, [], by omega, rfl, rfl, rfl⟩
      · rintro x r acc ⟨k, m, ps, hk, ex, rfl, hp⟩ N hN
        cases m with
        | zero => cases ex
        | succ m =>
          rw [List.range'_succ, List.map_cons] at ex
          injection ex with ex1 ex2
          subst ex1
          refine ⟨_, rfl, ?_⟩
          try simp only [ownLst, ownObj, mTake, mOf, fAndV, fOrV, fArgs, fCons, fNil, fVar_0, fVar_s, fUn, fBin, fBool, startE, envOf, slot, gSeq, frzE, gComp, gCompD, wipe_nil, wipe_cons, List.map_cons, List.map_nil, List.cons_append, List.nil_append, List.append_nil, true_and, and_true, List.set_cons_zero, List.set_cons_succ, List.length_cons, List.length_nil, List.replicate_succ, List.replicate_zero, Nat.reduceSub, Nat.reduceAdd, Nat.reduceLT, DEnds.fn, bOf_bl, eq_self, reduceIte, Bool.false_eq_true, gNotV_bl, Bool.not_true, Bool.not_false, g2I_int, g2I0_int, g1I_int, gLen_lst, gLen_tup, gInt_int, gMax2_int, gMin2_int, gIsN_non, gIsN_obj, gIsN_dT, gIsN_dK, gIsN_int, xsOf_lst, tsOf_tup, gIx_t0, gIx_t1, gIx_l0, gIx_l1, gIx_l2, gEqA_int, gEqA_str, gEqA_bl, gTup, gLst, Option.isSome_some, Bool.false_xor, Bool.true_xor, gFor, gNegI, gEqA_no, gIsN_lst, gIsN_tup, gIx_t2, Bool.not_not, dnE, dnL, decide_true, decide_false, gListL_lst, gTupL_lst, gListU_lst, gListU_tup, iOf_int, graphD, edD, optD, pvD, lvD, lvI, trD, Bool.xor_false, Bool.not_false, Bool.not_true]
          refine drawN 9 hb (by decide) (by decide) fun d hd => ⟨by rw [List.length_map, szL]; omega, hN _ ⟨k + 1, m, ps ++ [(d : Int)], by omega, ex2, by rw [List.map_append]; rfl, by rw [List.length_append, List.length_singleton, hp]⟩⟩
      · rintro acc ⟨k, m, ps, hk, ex, rfl, hp⟩
        cases m with
        | succ m => cases ex
        | zero =>
          try simp only [ownLst, ownObj, mTake, mOf, fAndV, fOrV, fArgs, fCons, fNil, fVar_0, fVar_s, fUn, fBin, fBool, startE, envOf, slot, gSeq, frzE, gComp, gCompD, wipe_nil, wipe_cons, List.map_cons, List.map_nil, List.cons_append, List.nil_append, List.append_nil, true_and, and_true, List.set_cons_zero, List.set_cons_succ, List.length_cons, List.length_nil, List.replicate_succ, List.replicate_zero, Nat.reduceSub, Nat.reduceAdd, Nat.reduceLT, DEnds.fn, bOf_bl, eq_self, reduceIte, Bool.false_eq_true, gNotV_bl, Bool.not_true, Bool.not_false, g2I_int, g2I0_int, g1I_int, gLen_lst, gLen_tup, gInt_int, gMax2_int, gMin2_int, gIsN_non, gIsN_obj, gIsN_dT, gIsN_dK, gIsN_int, xsOf_lst, tsOf_tup, gIx_t0, gIx_t1, gIx_l0, gIx_l1, gIx_l2, gEqA_int, gEqA_str, gEqA_bl, gTup, gLst, Option.isSome_some, Bool.false_xor, Bool.true_xor, gFor, gNegI, gEqA_no, gIsN_lst, gIsN_tup, gIx_t2, Bool.not_not, dnE, dnL, decide_true, decide_false, gListL_lst, gTupL_lst, gListU_lst, gListU_tup, iOf_int, graphD, edD, optD, pvD, lvD, lvI, trD, Bool.xor_false, Bool.not_false, Bool.not_true]
          refine START fun e he N hN => ⟨_, rfl, ?_⟩
          unfold prD
          try simp only [ownLst, ownObj, mTake, mOf, fAndV, fOrV, fArgs, fCons, fNil, fVar_0, fVar_s, fUn, fBin, fBool, startE, envOf, slot, gSeq, frzE, gComp, gCompD, wipe_nil, wipe_cons, List.map_cons, List.map_nil, List.cons_append, List.nil_append, List.append_nil, true_and, and_true, List.set_cons_zero, List.set_cons_succ, List.length_cons, List.length_nil, List.replicate_succ, List.replicate_zero, Nat.reduceSub, Nat.reduceAdd, Nat.reduceLT, DEnds.fn, bOf_bl, eq_self, reduceIte, Bool.false_eq_true, gNotV_bl, Bool.not_true, Bool.not_false, g2I_int, g2I0_int, g1I_int, gLen_lst, gLen_tup, gInt_int, gMax2_int, gMin2_int, gIsN_non, gIsN_obj, gIsN_dT, gIsN_dK, gIsN_int, xsOf_lst, tsOf_tup, gIx_t0, gIx_t1, gIx_l0, gIx_l1, gIx_l2, gEqA_int, gEqA_str, gEqA_bl, gTup, gLst, Option.isSome_some, Bool.false_xor, Bool.true_xor, gFor, gNegI, gEqA_no, gIsN_lst, gIsN_tup, gIx_t2, Bool.not_not, dnE, dnL, decide_true, decide_false, gListL_lst, gTupL_lst, gListU_lst, gListU_tup, iOf_int, graphD, edD, optD, pvD, lvD, lvI, trD, Bool.xor_false, Bool.not_false, Bool.not_true]
          refine gIx_nat (ps_get (by omega)) ?_
          try simp only [ownLst, ownObj, mTake, mOf, fAndV, fOrV, fArgs, fCons, fNil, fVar_0, fVar_s, fUn, fBin, fBool, startE, envOf, slot, gSeq, frzE, gComp, gCompD, wipe_nil, wipe_cons, List.map_cons, List.map_nil, List.cons_append, List.nil_append, List.append_nil, true_and, and_true, List.set_cons_zero, List.set_cons_succ, List.length_cons, List.length_nil, List.replicate_succ, List.replicate_zero, Nat.reduceSub, Nat.reduceAdd, Nat.reduceLT, DEnds.fn, bOf_bl, eq_self, reduceIte, Bool.false_eq_true, gNotV_bl, Bool.not_true, Bool.not_false, g2I_int, g2I0_int, g1I_int, gLen_lst, gLen_tup, gInt_int, gMax2_int, gMin2_int, gIsN_non, gIsN_obj, gIsN_dT, gIsN_dK, gIsN_int, xsOf_lst, tsOf_tup, gIx_t0, gIx_t1, gIx_l0, gIx_l1, gIx_l2, gEqA_int, gEqA_str, gEqA_bl, gTup, gLst, Option.isSome_some, Bool.false_xor, Bool.true_xor, gFor, gNegI, gEqA_no, gIsN_lst, gIsN_tup, gIx_t2, Bool.not_not, dnE, dnL, decide_true, decide_false, gListL_lst, gTupL_lst, gListU_lst, gListU_tup, iOf_int, graphD, edD, optD, pvD, lvD, lvI, trD, Bool.xor_false, Bool.not_false, Bool.not_true]
          refine gIx_nat (ps_get (by omega)) ?_
          try simp only [ownLst, ownObj, mTake, mOf, fAndV, fOrV, fArgs, fCons, fNil, fVar_0, fVar_s, fUn, fBin, fBool, startE, envOf, slot, gSeq, frzE, gComp, gCompD, wipe_nil, wipe_cons, List.map_cons, List.map_nil, List.cons_append, List.nil_append, List.append_nil, true_and, and_true, List.set_cons_zero, List.set_cons_succ, List.length_cons, List.length_nil, List.replicate_succ, List.replicate_zero, Nat.reduceSub, Nat.reduceAdd, Nat.reduceLT, DEnds.fn, bOf_bl, eq_self, reduceIte, Bool.false_eq_true, gNotV_bl, Bool.not_true, Bool.not_false, g2I_int, g2I0_int, g1I_int, gLen_lst, gLen_tup, gInt_int, gMax2_int, gMin2_int, gIsN_non, gIsN_obj, gIsN_dT, gIsN_dK, gIsN_int, xsOf_lst, tsOf_tup, gIx_t0, gIx_t1, gIx_l0, gIx_l1, gIx_l2, gEqA_int, gEqA_str, gEqA_bl, gTup, gLst, Option.isSome_some, Bool.false_xor, Bool.true_xor, gFor, gNegI, gEqA_no, gIsN_lst, gIsN_tup, gIx_t2, Bool.not_not, dnE, dnL, decide_true, decide_false, gListL_lst, gTupL_lst, gListU_lst, gListU_tup, iOf_int, graphD, edD, optD, pvD, lvD, lvI, trD, Bool.xor_false, Bool.not_false, Bool.not_true]
          refine drawN 6 hb (by decide) (by decide) fun d hd => ?_
          have fin : ∀ (ms : List Int), ms.length = 6 → gIx (.lst (ms.map D.int)) (natD d) fun y => gAddI (.int (pf ps e.2 - pf ps e.1)) y fun y => 3 ≤ sizeLine ∧ N (.tup [natD e.1, natD e.2, y]) := fun ms hms => by
            refine gIx_nat (d := .int (pf ms d)) (ps_get (by omega)) ?_
            exact ⟨by decide, hN _⟩
          first | exact ⟨fin [0 - 1, 0, 0, 1, 1, 2] rfl⟩ | exact fin [0 - 1, 0, 0, 1, 1, 2] rfl | exact fin [0, 0, 0, 1, 2, 3] rfl
abbrev s_law_round : Stmt := topS 13
theorem sc_law_round : FnScope ["bag", "count", "chords", "order", "k", "prices", "edges", "tail", "cost", "head", "more"] ["bag", "count", "chords"] (defScope s_law_round) := ⟨rfl, rfl, rfl, by decide +kernel, rfl, by decide +kernel, by decide +kernel⟩
theorem ok_law_round {f : Addr} {fd : FuncData} (F : Fun K "_law_round" "_law_round" s_law_round f fd) (T : Bi mg) (c_law_draw : Cal P w K mg base "_law_draw" 1 ["bag", "size"] (.own 0) [] wDraw) : FnOk P w K mg base CX0 2 f fd ["bag", "count", "chords"] (spD K (.own 0) w_law_round) := by
  refine Fun_okD F sc_law_round (fun _ _ _ h => by obtain ⟨_, _, _, _, e, _, _, _, _⟩ := h; rw [e]; rfl) fun B cdv A outer s H E hr => ⟨_, (ds_cons (ds_setM 3 1 sc_law_round.nd rfl (by first | exact Or.inl rfl | exact Or.inr rfl) (by decide) (dm_of (de_lst 0 da_nil)))
(ds_cons (ds_for PassesOwn.never rfl (di_range T.range_ (de_v 1)) (dg_name 4 sc_law_round.nd rfl (by first | exact Or.inl rfl | exact Or.inr rfl) (by decide))
(ds_one (ds_exprM (m := .own 0) (dm_insert 3 0 (de_C c_law_draw hr (da_cons (m := .own 0) (de_v 0) (da_cons (m := .own 0) (de_add (m := .own 0) (de_v 4) (de_int (m := .rd))) da_nil))) (de_v 4)))))
(ds_cons (ds_frz 3 (ds_setLc (own := [("k", 4)]) 5 0 rfl sc_law_round.nd rfl rfl (by decide) (sw_true rfl rfl rfl rfl) (di_range T.range_ (de_v 1)) (blk_of ["bag", "count", "chords", "order", "k", "prices", "edges", "tail", "cost", "head", "more"] (defScope s_law_round) rfl (by decide +kernel) (by decide +kernel) (by decide +kernel) (by decide +kernel)) (dgc_name 4 sc_law_round.nd rfl) (hol_cons rfl (fun _ _ => rfl) hol_nil) (fun _ _ _ _ _ => dts_nil) (fun _ _ _ _ _ => (de_C c_law_draw hr (da_cons (m := .own 0) (de_v 0) (da_cons (m := .own 0) (de_int (m := .own 0)) da_nil))))))
(ds_cons (ds_frz 5 (ds_setM 6 1 sc_law_round.nd rfl (by first | exact Or.inl rfl | exact Or.inr rfl) (by decide) (dm_of (de_lst 0 da_nil))))
(ds_cons (ds_for PassesOwn.never rfl (di_range T.range_ (de_v 1)) (dg_name 4 sc_law_round.nd rfl (by first | exact Or.inl rfl | exact Or.inr rfl) (by decide))
(ds_cons (ds_setM 7 0 sc_law_round.nd rfl (by first | exact Or.inl rfl | exact Or.inr rfl) (by decide) (dm_of (de_at (de_v 3) (de_sub (m := .rd) (de_v 4) (de_int (m := .rd))))))
(ds_cons (ds_setM 8 0 sc_law_round.nd rfl (by first | exact Or.inl rfl | exact Or.inr rfl) (by decide) (dm_of (de_sub (m := .own 0) (de_at (de_v 5) (de_at (de_v 3) (de_v 4))) (de_at (de_v 5) (de_v 7)))))
(ds_cons (ds_if (dt_eq (de_v 4) (de_int (m := .rd)))
(ds_one (ds_setM 8 0 sc_law_round.nd rfl (by first | exact Or.inl rfl | exact Or.inr rfl) (by decide) (dm_of (de_sub (m := .own 0) (de_v 8) (de_int (m := .rd))))))
ds_nil)
(ds_one (ds_exprM (m := .own 0) (dm_insert 6 0 (de_C c_law_draw hr (da_cons (m := .own 0) (de_v 0) (da_cons (m := .own 0) (de_add (m := .own 0) (de_v 4) (de_int (m := .rd))) da_nil))) (de_tup (da_cons (m := .own 0) (de_v 7) (da_cons (m := .own 0) (de_at (de_v 3) (de_v 4)) (da_cons (m := .own 0) (de_v 8) da_nil)))))))))))
(ds_cons (ds_for PassesOwn.never rfl (di_range T.range_ (de_v 2)) (dg_name 4 sc_law_round.nd rfl (by first | exact Or.inl rfl | exact Or.inr rfl) (by decide))
(ds_cons (ds_setM 7 0 sc_law_round.nd rfl (by first | exact Or.inl rfl | exact Or.inr rfl) (by decide) (dm_of (de_C c_law_draw hr (da_cons (m := .own 0) (de_v 0) (da_cons (m := .own 0) (de_v 1) da_nil)))))
(ds_cons (ds_setM 9 0 sc_law_round.nd rfl (by first | exact Or.inl rfl | exact Or.inr rfl) (by decide) (dm_of (de_C c_law_draw hr (da_cons (m := .own 0) (de_v 0) (da_cons (m := .own 0) (de_v 1) da_nil)))))
(ds_cons (ds_setM 10 0 sc_law_round.nd rfl (by first | exact Or.inl rfl | exact Or.inr rfl) (by decide) (dm_of (de_max2 (m := .own 0) rfl T.max_ (de_int (m := .rd)) (de_sub (m := .rd) (de_C c_law_draw hr (da_cons (m := .own 0) (de_v 0) (da_cons (m := .own 0) (de_int (m := .own 0)) da_nil))) (de_int (m := .rd))))))
(ds_one (ds_exprM (m := .own 0) (dm_insert 6 0 (de_C c_law_draw hr (da_cons (m := .own 0) (de_v 0) (da_cons (m := .own 0) (de_add (m := .own 0) (de_len (m := .rd) T.len_ (de_var 6 1)) (de_int (m := .rd))) da_nil))) (de_tup (da_cons (m := .own 0) (de_v 7) (da_cons (m := .own 0) (de_v 9) (da_cons (m := .own 0) (de_add (m := .own 0) (de_sub (m := .rd) (de_at (de_v 5) (de_v 9)) (de_at (de_v 5) (de_v 7))) (de_v 10)) da_nil)))))))))))
(ds_one (ds_frz 6 (ds_retM (dm_of (de_tup (da_cons (m := .own 0) (de_v 1) (da_cons (m := .own 0) (de_v 6) (da_cons (m := .own 0) (de_frz (de_lst 0 (da_cons (m := .own 0) (de_at (de_v 3) (de_int (m := .rd))) da_nil))) da_nil)))))))))))))), fun ds R ⟨b, count, many, hb, e, h1, h2, h3, hR⟩ => ?_⟩
  subst e
  try simp only [ownLst, ownObj, mTake, mOf, fAndV, fOrV, fArgs, fCons, fNil, fVar_0, fVar_s, fUn, fBin, fBool, startE, envOf, slot, gSeq, frzE, gComp, gCompD, wipe_nil, wipe_cons, List.map_cons, List.map_nil, List.cons_append, List.nil_append, List.append_nil, true_and, and_true, List.set_cons_zero, List.set_cons_succ, List.length_cons, List.length_nil, List.replicate_succ, List.replicate_zero, Nat.reduceSub, Nat.reduceAdd, Nat.reduceLT, DEnds.fn, bOf_bl, eq_self, reduceIte, Bool.false_eq_true, gNotV_bl, Bool.not_true, Bool.not_false, g2I_int, g2I0_int, g1I_int, gLen_lst, gLen_tup, gInt_int, gMax2_int, gMin2_int, gIsN_non, gIsN_obj, gIsN_dT, gIsN_dK, gIsN_int, xsOf_lst, tsOf_tup, gIx_t0, gIx_t1, gIx_l0, gIx_l1, gIx_l2, gEqA_int, gEqA_str, gEqA_bl, gTup, gLst, Option.isSome_some, Bool.false_xor, Bool.true_xor, gFor, gNegI, gEqA_no, gIsN_lst, gIsN_tup, gIx_t2, Bool.not_not, dnE, dnL, decide_true, decide_false, gListL_lst, gTupL_lst, gListU_lst, gListU_tup, iOf_int, graphD, edD, optD, pvD, lvD, lvI, trD, Bool.xor_false, Bool.not_false, Bool.not_true]
  refine ⟨Nat.zero_le _, rng_go (by omega) ?_⟩
  refine forD_go (fun xs ρ => ∃ (k m : Nat) (os : List Nat) (v4 : Option (Nat × D)), k + m = count ∧ xs = (List.range' k m).map natD ∧ os.length = k ∧ (∀ x ∈ os, x < count) ∧
    ρ = [some (0, .raw (.ref b)), some (0, natD count), some (0, natD many), some (1, .lst (os.map natD)), v4, none, none, none, none, none, none]) ?_ ?_ _ _ ⟨0, count, [], none, by omega, rfl, rfl, fun x h => (by cases h), rfl⟩
  · rintro x r ρ ⟨k, m, os, v4, hk, ex, hl, ho, rfl⟩ N hN
    cases m with
    | zero => cases ex
    | succ m =>
      rw [List.range'_succ, List.map_cons] at ex
      injection ex with ex1 ex2
      subst ex1
      refine ⟨_, rfl, ?_⟩
      try simp only [ownLst, ownObj, mTake, mOf, fAndV, fOrV, fArgs, fCons, fNil, fVar_0, fVar_s, fUn, fBin, fBool, startE, envOf, slot, gSeq, frzE, gComp, gCompD, wipe_nil, wipe_cons, List.map_cons, List.map_nil, List.cons_append, List.nil_append, List.append_nil, true_and, and_true, List.set_cons_zero, List.set_cons_succ, List.length_cons, List.length_nil, List.replicate_succ, List.replicate_zero, Nat.reduceSub, Nat.reduceAdd, Nat.reduceLT, DEnds.fn, bOf_bl, eq_self, reduceIte, Bool.false_eq_true, gNotV_bl, Bool.not_true, Bool.not_false, g2I_int, g2I0_int, g1I_int, gLen_lst, gLen_tup, gInt_int, gMax2_int, gMin2_int, gIsN_non, gIsN_obj, gIsN_dT, gIsN_dK, gIsN_int, xsOf_lst, tsOf_tup, gIx_t0, gIx_t1, gIx_l0, gIx_l1, gIx_l2, gEqA_int, gEqA_str, gEqA_bl, gTup, gLst, Option.isSome_some, Bool.false_xor, Bool.true_xor, gFor, gNegI, gEqA_no, gIsN_lst, gIsN_tup, gIx_t2, Bool.not_not, dnE, dnL, decide_true, decide_false, gListL_lst, gTupL_lst, gListU_lst, gListU_tup, iOf_int, graphD, edD, optD, pvD, lvD, lvI, trD, Bool.xor_false, Bool.not_false, Bool.not_true]
      refine drawN (k + 1) hb (by omega) (by omega) fun j hj => ?_
      refine ⟨_, rfl, by omega, by omega, ?_⟩
      try simp only [ownLst, ownObj, mTake, mOf, fAndV, fOrV, fArgs, fCons, fNil, fVar_0, fVar_s, fUn, fBin, fBool, startE, envOf, slot, gSeq, frzE, gComp, gCompD, wipe_nil, wipe_cons, List.map_cons, List.map_nil, List.cons_append, List.nil_append, List.append_nil, true_and, and_true, List.set_cons_zero, List.set_cons_succ, List.length_cons, List.length_nil, List.replicate_succ, List.replicate_zero, Nat.reduceSub, Nat.reduceAdd, Nat.reduceLT, DEnds.fn, bOf_bl, eq_self, reduceIte, Bool.false_eq_true, gNotV_bl, Bool.not_true, Bool.not_false, g2I_int, g2I0_int, g1I_int, gLen_lst, gLen_tup, gInt_int, gMax2_int, gMin2_int, gIsN_non, gIsN_obj, gIsN_dT, gIsN_dK, gIsN_int, xsOf_lst, tsOf_tup, gIx_t0, gIx_t1, gIx_l0, gIx_l1, gIx_l2, gEqA_int, gEqA_str, gEqA_bl, gTup, gLst, Option.isSome_some, Bool.false_xor, Bool.true_xor, gFor, gNegI, gEqA_no, gIsN_lst, gIsN_tup, gIx_t2, Bool.not_not, dnE, dnL, decide_true, decide_false, gListL_lst, gTupL_lst, gListU_lst, gListU_tup, iOf_int, graphD, edD, optD, pvD, lvD, lvI, trD, Bool.xor_false, Bool.not_false, Bool.not_true]
      rw [Int.toNat_natCast, insD_map]
      refine ⟨by rw [List.length_map, szL]; omega, hN _ ⟨k + 1, m, _, _, by omega, ex2, by rw [insN_len, hl], fun x hx => (insN_mem hx).elim (fun z => by omega) (ho x), rfl⟩⟩
  rintro ρ ⟨k, m, os, v4, hk, ex, hl, ho, rfl⟩
  cases m with
  | succ m => cases ex
  | zero =>
  have hk : k = count := hk
  subst hk
  try simp only [ownLst, ownObj, mTake, mOf, fAndV, fOrV, fArgs, fCons, fNil, fVar_0, fVar_s, fUn, fBin, fBool, startE, envOf, slot, gSeq, frzE, gComp, gCompD, wipe_nil, wipe_cons, List.map_cons, List.map_nil, List.cons_append, List.nil_append, List.append_nil, true_and, and_true, List.set_cons_zero, List.set_cons_succ, List.length_cons, List.length_nil, List.replicate_succ, List.replicate_zero, Nat.reduceSub, Nat.reduceAdd, Nat.reduceLT, DEnds.fn, bOf_bl, eq_self, reduceIte, Bool.false_eq_true, gNotV_bl, Bool.not_true, Bool.not_false, g2I_int, g2I0_int, g1I_int, gLen_lst, gLen_tup, gInt_int, gMax2_int, gMin2_int, gIsN_non, gIsN_obj, gIsN_dT, gIsN_dK, gIsN_int, xsOf_lst, tsOf_tup, gIx_t0, gIx_t1, gIx_l0, gIx_l1, gIx_l2, gEqA_int, gEqA_str, gEqA_bl, gTup, gLst, Option.isSome_some, Bool.false_xor, Bool.true_xor, gFor, gNegI, gEqA_no, gIsN_lst, gIsN_tup, gIx_t2, Bool.not_not, dnE, dnL, decide_true, decide_false, gListL_lst, gTupL_lst, gListU_lst, gListU_tup, iOf_int, graphD, edD, optD, pvD, lvD, lvI, trD, Bool.xor_false, Bool.not_false, Bool.not_true]
  refine rng_go (by omega) ?_
  refine compD_go (fun xs acc => ∃ (i m : Nat) (ps : List Int), i + m = k ∧ xs = (List.range' i m).map natD ∧ acc = ps.map .int ∧ ps.length = i) ?_ ?_ _ _ ⟨0, k, [], by omega, rfl, rfl, rfl⟩
  · rintro x r acc ⟨i, m, ps, hi, ey, rfl, hp⟩ N hN
    cases m with
    | zero => cases ey
    | succ m =>
      rw [List.range'_succ, List.map_cons] at ey
      injection ey with ey1 ey2
      subst ey1
      refine ⟨_, rfl, ?_⟩
      try simp only [ownLst, ownObj, mTake, mOf, fAndV, fOrV, fArgs, fCons, fNil, fVar_0, fVar_s, fUn, fBin, fBool, startE, envOf, slot, gSeq, frzE, gComp, gCompD, wipe_nil, wipe_cons, List.map_cons, List.map_nil, List.cons_append, List.nil_append, List.append_nil, true_and, and_true, List.set_cons_zero, List.set_cons_succ, List.length_cons, List.length_nil, List.replicate_succ, List.replicate_zero, Nat.reduceSub, Nat.reduceAdd, Nat.reduceLT, DEnds.fn, bOf_bl, eq_self, reduceIte, Bool.false_eq_true, gNotV_bl, Bool.not_true, Bool.not_false, g2I_int, g2I0_int, g1I_int, gLen_lst, gLen_tup, gInt_int, gMax2_int, gMin2_int, gIsN_non, gIsN_obj, gIsN_dT, gIsN_dK, gIsN_int, xsOf_lst, tsOf_tup, gIx_t0, gIx_t1, gIx_l0, gIx_l1, gIx_l2, gEqA_int, gEqA_str, gEqA_bl, gTup, gLst, Option.isSome_some, Bool.false_xor, Bool.true_xor, gFor, gNegI, gEqA_no, gIsN_lst, gIsN_tup, gIx_t2, Bool.not_not, dnE, dnL, decide_true, decide_false, gListL_lst, gTupL_lst, gListU_lst, gListU_tup, iOf_int, graphD, edD, optD, pvD, lvD, lvI, trD, Bool.xor_false, Bool.not_false, Bool.not_true]
      refine drawN 50 hb (by decide) (by decide) fun d hd => ⟨by rw [List.length_map, szL]; omega, hN _ ⟨i + 1, m, ps ++ [(d : Int)], by omega, ey2, by rw [List.map_append]; rfl, by rw [List.length_append, List.length_singleton, hp]⟩⟩
  rintro acc ⟨i, m, ps, hi, ey, rfl, hp⟩
  cases m with
  | succ m => cases ey
  | zero =>
  have hi : i = k := hi
  subst hi
  try simp only [ownLst, ownObj, mTake, mOf, fAndV, fOrV, fArgs, fCons, fNil, fVar_0, fVar_s, fUn, fBin, fBool, startE, envOf, slot, gSeq, frzE, gComp, gCompD, wipe_nil, wipe_cons, List.map_cons, List.map_nil, List.cons_append, List.nil_append, List.append_nil, true_and, and_true, List.set_cons_zero, List.set_cons_succ, List.length_cons, List.length_nil, List.replicate_succ, List.replicate_zero, Nat.reduceSub, Nat.reduceAdd, Nat.reduceLT, DEnds.fn, bOf_bl, eq_self, reduceIte, Bool.false_eq_true, gNotV_bl, Bool.not_true, Bool.not_false, g2I_int, g2I0_int, g1I_int, gLen_lst, gLen_tup, gInt_int, gMax2_int, gMin2_int, gIsN_non, gIsN_obj, gIsN_dT, gIsN_dK, gIsN_int, xsOf_lst, tsOf_tup, gIx_t0, gIx_t1, gIx_l0, gIx_l1, gIx_l2, gEqA_int, gEqA_str, gEqA_bl, gTup, gLst, Option.isSome_some, Bool.false_xor, Bool.true_xor, gFor, gNegI, gEqA_no, gIsN_lst, gIsN_tup, gIx_t2, Bool.not_not, dnE, dnL, decide_true, decide_false, gListL_lst, gTupL_lst, gListU_lst, gListU_tup, iOf_int, graphD, edD, optD, pvD, lvD, lvI, trD, Bool.xor_false, Bool.not_false, Bool.not_true]
  refine ⟨Nat.zero_le _, rng_go (by omega) ?_⟩
  obtain ⟨h0, gh0⟩ : ∃ h0, os[0]? = some h0 := ⟨_, List.getElem?_eq_getElem (by omega)⟩
  have h0m : h0 ∈ os := List.mem_of_getElem? gh0
  refine forD_go (fun xs ρ => ∃ (j m : Nat) (es : List Ed) (v4 v7 v8 : Option (Nat × D)), j + m = i ∧ xs = (List.range' j m).map natD ∧ es.length = j ∧ Wf es i ∧ (∀ e ∈ es, e.2.1 ≠ h0 → pf ps e.2.1 ≤ pf ps e.1 + e.2.2) ∧
    ρ = [some (0, .raw (.ref b)), some (0, natD i), some (0, natD many), some (0, .lst (os.map natD)), v4, some (0, .lst (ps.map .int)), some (1, .lst (edsD es)), v7, v8, none, none]) ?_ ?_ _ _ ⟨0, i, [], _, none, none, by omega, rfl, rfl, fun e h => (by cases h), fun e h => (by cases h), rfl⟩
  · rintro x r ρ ⟨j, m, es, v4, v7, v8, hj, ez, hle, hw, hpr, rfl⟩ N hN
    cases m with
    | zero => cases ez
    | succ m =>
      rw [List.range'_succ, List.map_cons] at ez
      injection ez with ez1 ez2
      subst ez1
      have hjo : j < os.length := by omega
      obtain ⟨t, tm, gt'⟩ := prev_get hjo
      have ht := ho t tm
      have gj : os[j]? = some os[j] := List.getElem?_eq_getElem hjo
      have gj2 : (os.map natD)[j]? = some (natD os[j]) := by rw [List.getElem?_map, gj]; rfl
      have hoj := ho _ (List.getElem_mem hjo)
      revert gj gj2 hoj
      generalize os[j] = v
      intro gj gj2 hoj
      have g1 := ps_get (ps := ps) (v := v) (by omega)
      have g2 := ps_get (ps := ps) (v := t) (by omega)
      refine ⟨_, rfl, ?_⟩
      try simp only [ownLst, ownObj, mTake, mOf, fAndV, fOrV, fArgs, fCons, fNil, fVar_0, fVar_s, fUn, fBin, fBool, startE, envOf, slot, gSeq, frzE, gComp, gCompD, wipe_nil, wipe_cons, List.map_cons, List.map_nil, List.cons_append, List.nil_append, List.append_nil, true_and, and_true, List.set_cons_zero, List.set_cons_succ, List.length_cons, List.length_nil, List.replicate_succ, List.replicate_zero, Nat.reduceSub, Nat.reduceAdd, Nat.reduceLT, DEnds.fn, bOf_bl, eq_self, reduceIte, Bool.false_eq_true, gNotV_bl, Bool.not_true, Bool.not_false, g2I_int, g2I0_int, g1I_int, gLen_lst, gLen_tup, gInt_int, gMax2_int, gMin2_int, gIsN_non, gIsN_obj, gIsN_dT, gIsN_dK, gIsN_int, xsOf_lst, tsOf_tup, gIx_t0, gIx_t1, gIx_l0, gIx_l1, gIx_l2, gEqA_int, gEqA_str, gEqA_bl, gTup, gLst, Option.isSome_some, Bool.false_xor, Bool.true_xor, gFor, gNegI, gEqA_no, gIsN_lst, gIsN_tup, gIx_t2, Bool.not_not, dnE, dnL, decide_true, decide_false, gListL_lst, gTupL_lst, gListU_lst, gListU_tup, iOf_int, graphD, edD, optD, pvD, lvD, lvI, trD, Bool.xor_false, Bool.not_false, Bool.not_true]
      refine ⟨_, gt', ?_⟩
      try simp only [ownLst, ownObj, mTake, mOf, fAndV, fOrV, fArgs, fCons, fNil, fVar_0, fVar_s, fUn, fBin, fBool, startE, envOf, slot, gSeq, frzE, gComp, gCompD, wipe_nil, wipe_cons, List.map_cons, List.map_nil, List.cons_append, List.nil_append, List.append_nil, true_and, and_true, List.set_cons_zero, List.set_cons_succ, List.length_cons, List.length_nil, List.replicate_succ, List.replicate_zero, Nat.reduceSub, Nat.reduceAdd, Nat.reduceLT, DEnds.fn, bOf_bl, eq_self, reduceIte, Bool.false_eq_true, gNotV_bl, Bool.not_true, Bool.not_false, g2I_int, g2I0_int, g1I_int, gLen_lst, gLen_tup, gInt_int, gMax2_int, gMin2_int, gIsN_non, gIsN_obj, gIsN_dT, gIsN_dK, gIsN_int, xsOf_lst, tsOf_tup, gIx_t0, gIx_t1, gIx_l0, gIx_l1, gIx_l2, gEqA_int, gEqA_str, gEqA_bl, gTup, gLst, Option.isSome_some, Bool.false_xor, Bool.true_xor, gFor, gNegI, gEqA_no, gIsN_lst, gIsN_tup, gIx_t2, Bool.not_not, dnE, dnL, decide_true, decide_false, gListL_lst, gTupL_lst, gListU_lst, gListU_tup, iOf_int, graphD, edD, optD, pvD, lvD, lvI, trD, Bool.xor_false, Bool.not_false, Bool.not_true]
      refine gIx_nat gj2 ?_
      try simp only [ownLst, ownObj, mTake, mOf, fAndV, fOrV, fArgs, fCons, fNil, fVar_0, fVar_s, fUn, fBin, fBool, startE, envOf, slot, gSeq, frzE, gComp, gCompD, wipe_nil, wipe_cons, List.map_cons, List.map_nil, List.cons_append, List.nil_append, List.append_nil, true_and, and_true, List.set_cons_zero, List.set_cons_succ, List.length_cons, List.length_nil, List.replicate_succ, List.replicate_zero, Nat.reduceSub, Nat.reduceAdd, Nat.reduceLT, DEnds.fn, bOf_bl, eq_self, reduceIte, Bool.false_eq_true, gNotV_bl, Bool.not_true, Bool.not_false, g2I_int, g2I0_int, g1I_int, gLen_lst, gLen_tup, gInt_int, gMax2_int, gMin2_int, gIsN_non, gIsN_obj, gIsN_dT, gIsN_dK, gIsN_int, xsOf_lst, tsOf_tup, gIx_t0, gIx_t1, gIx_l0, gIx_l1, gIx_l2, gEqA_int, gEqA_str, gEqA_bl, gTup, gLst, Option.isSome_some, Bool.false_xor, Bool.true_xor, gFor, gNegI, gEqA_no, gIsN_lst, gIsN_tup, gIx_t2, Bool.not_not, dnE, dnL, decide_true, decide_false, gListL_lst, gTupL_lst, gListU_lst, gListU_tup, iOf_int, graphD, edD, optD, pvD, lvD, lvI, trD, Bool.xor_false, Bool.not_false, Bool.not_true]
      refine gIx_nat g1 ?_
      try simp only [ownLst, ownObj, mTake, mOf, fAndV, fOrV, fArgs, fCons, fNil, fVar_0, fVar_s, fUn, fBin, fBool, startE, envOf, slot, gSeq, frzE, gComp, gCompD, wipe_nil, wipe_cons, List.map_cons, List.map_nil, List.cons_append, List.nil_append, List.append_nil, true_and, and_true, List.set_cons_zero, List.set_cons_succ, List.length_cons, List.length_nil, List.replicate_succ, List.replicate_zero, Nat.reduceSub, Nat.reduceAdd, Nat.reduceLT, DEnds.fn, bOf_bl, eq_self, reduceIte, Bool.false_eq_true, gNotV_bl, Bool.not_true, Bool.not_false, g2I_int, g2I0_int, g1I_int, gLen_lst, gLen_tup, gInt_int, gMax2_int, gMin2_int, gIsN_non, gIsN_obj, gIsN_dT, gIsN_dK, gIsN_int, xsOf_lst, tsOf_tup, gIx_t0, gIx_t1, gIx_l0, gIx_l1, gIx_l2, gEqA_int, gEqA_str, gEqA_bl, gTup, gLst, Option.isSome_some, Bool.false_xor, Bool.true_xor, gFor, gNegI, gEqA_no, gIsN_lst, gIsN_tup, gIx_t2, Bool.not_not, dnE, dnL, decide_true, decide_false, gListL_lst, gTupL_lst, gListU_lst, gListU_tup, iOf_int, graphD, edD, optD, pvD, lvD, lvI, trD, Bool.xor_false, Bool.not_false, Bool.not_true]
      refine gIx_nat g2 ?_
      try simp only [ownLst, ownObj, mTake, mOf, fAndV, fOrV, fArgs, fCons, fNil, fVar_0, fVar_s, fUn, fBin, fBool, startE, envOf, slot, gSeq, frzE, gComp, gCompD, wipe_nil, wipe_cons, List.map_cons, List.map_nil, List.cons_append, List.nil_append, List.append_nil, true_and, and_true, List.set_cons_zero, List.set_cons_succ, List.length_cons, List.length_nil, List.replicate_succ, List.replicate_zero, Nat.reduceSub, Nat.reduceAdd, Nat.reduceLT, DEnds.fn, bOf_bl, eq_self, reduceIte, Bool.false_eq_true, gNotV_bl, Bool.not_true, Bool.not_false, g2I_int, g2I0_int, g1I_int, gLen_lst, gLen_tup, gInt_int, gMax2_int, gMin2_int, gIsN_non, gIsN_obj, gIsN_dT, gIsN_dK, gIsN_int, xsOf_lst, tsOf_tup, gIx_t0, gIx_t1, gIx_l0, gIx_l1, gIx_l2, gEqA_int, gEqA_str, gEqA_bl, gTup, gLst, Option.isSome_some, Bool.false_xor, Bool.true_xor, gFor, gNegI, gEqA_no, gIsN_lst, gIsN_tup, gIx_t2, Bool.not_not, dnE, dnL, decide_true, decide_false, gListL_lst, gTupL_lst, gListU_lst, gListU_tup, iOf_int, graphD, edD, optD, pvD, lvD, lvI, trD, Bool.xor_false, Bool.not_false, Bool.not_true]
      have fin : ∀ c : Int, (v ≠ h0 → pf ps v ≤ pf ps t + c) → ∀ q : Nat, ∀ v4 v7 v8, (edsD es).length < sizeLine ∧ N [some (0, .raw (.ref b)), some (0, natD i), some (0, natD many), some (0, .lst (os.map natD)), v4, some (0, .lst (ps.map .int)), some (1, .lst (edsD (insN es q (t, v, c)))), v7, v8, none, none] := fun c hc q v4 v7 v8 => by
        refine ⟨by show (es.map edD).length < sizeLine; rw [List.length_map, szL]; omega, hN _ ⟨j + 1, m, insN es q (t, v, c), v4, v7, v8, by omega, ez2, by rw [insN_len, hle], fun e he => ?_, fun e he => ?_, rfl⟩⟩
        · rcases insN_mem he with z | z
          · rw [z]; exact ⟨ht, hoj⟩
          · exact hw e z
        · rcases insN_mem he with z | z
          · rw [z]; exact hc
          · exact hpr e z
      by_cases c0 : (j : Int) = 0
      case' pos => rw [decide_eq_true c0]
      case' neg => rw [decide_eq_false c0]
      all_goals
        try simp only [ownLst, ownObj, mTake, mOf, fAndV, fOrV, fArgs, fCons, fNil, fVar_0, fVar_s, fUn, fBin, fBool, startE, envOf, slot, gSeq, frzE, gComp, gCompD, wipe_nil, wipe_cons, List.map_cons, List.map_nil, List.cons_append, List.nil_append, List.append_nil, true_and, and_true, List.set_cons_zero, List.set_cons_succ, List.length_cons, List.length_nil, List.replicate_succ, List.replicate_zero, Nat.reduceSub, Nat.reduceAdd, Nat.reduceLT, DEnds.fn, bOf_bl, eq_self, reduceIte, Bool.false_eq_true, gNotV_bl, Bool.not_true, Bool.not_false, g2I_int, g2I0_int, g1I_int, gLen_lst, gLen_tup, gInt_int, gMax2_int, gMin2_int, gIsN_non, gIsN_obj, gIsN_dT, gIsN_dK, gIsN_int, xsOf_lst, tsOf_tup, gIx_t0, gIx_t1, gIx_l0, gIx_l1, gIx_l2, gEqA_int, gEqA_str, gEqA_bl, gTup, gLst, Option.isSome_some, Bool.false_xor, Bool.true_xor, gFor, gNegI, gEqA_no, gIsN_lst, gIsN_tup, gIx_t2, Bool.not_not, dnE, dnL, decide_true, decide_false, gListL_lst, gTupL_lst, gListU_lst, gListU_tup, iOf_int, graphD, edD, optD, pvD, lvD, lvI, trD, Bool.xor_false, Bool.not_false, Bool.not_true]
        refine drawN (j + 1) hb (by omega) (by omega) fun q hq => ?_
        try simp only [ownLst, ownObj, mTake, mOf, fAndV, fOrV, fArgs, fCons, fNil, fVar_0, fVar_s, fUn, fBin, fBool, startE, envOf, slot, gSeq, frzE, gComp, gCompD, wipe_nil, wipe_cons, List.map_cons, List.map_nil, List.cons_append, List.nil_append, List.append_nil, true_and, and_true, List.set_cons_zero, List.set_cons_succ, List.length_cons, List.length_nil, List.replicate_succ, List.replicate_zero, Nat.reduceSub, Nat.reduceAdd, Nat.reduceLT, DEnds.fn, bOf_bl, eq_self, reduceIte, Bool.false_eq_true, gNotV_bl, Bool.not_true, Bool.not_false, g2I_int, g2I0_int, g1I_int, gLen_lst, gLen_tup, gInt_int, gMax2_int, gMin2_int, gIsN_non, gIsN_obj, gIsN_dT, gIsN_dK, gIsN_int, xsOf_lst, tsOf_tup, gIx_t0, gIx_t1, gIx_l0, gIx_l1, gIx_l2, gEqA_int, gEqA_str, gEqA_bl, gTup, gLst, Option.isSome_some, Bool.false_xor, Bool.true_xor, gFor, gNegI, gEqA_no, gIsN_lst, gIsN_tup, gIx_t2, Bool.not_not, dnE, dnL, decide_true, decide_false, gListL_lst, gTupL_lst, gListU_lst, gListU_tup, iOf_int, graphD, edD, optD, pvD, lvD, lvI, trD, Bool.xor_false, Bool.not_false, Bool.not_true]
        refine gIx_nat gj2 ?_
        try simp only [ownLst, ownObj, mTake, mOf, fAndV, fOrV, fArgs, fCons, fNil, fVar_0, fVar_s, fUn, fBin, fBool, startE, envOf, slot, gSeq, frzE, gComp, gCompD, wipe_nil, wipe_cons, List.map_cons, List.map_nil, List.cons_append, List.nil_append, List.append_nil, true_and, and_true, List.set_cons_zero, List.set_cons_succ, List.length_cons, List.length_nil, List.replicate_succ, List.replicate_zero, Nat.reduceSub, Nat.reduceAdd, Nat.reduceLT, DEnds.fn, bOf_bl, eq_self, reduceIte, Bool.false_eq_true, gNotV_bl, Bool.not_true, Bool.not_false, g2I_int, g2I0_int, g1I_int, gLen_lst, gLen_tup, gInt_int, gMax2_int, gMin2_int, gIsN_non, gIsN_obj, gIsN_dT, gIsN_dK, gIsN_int, xsOf_lst, tsOf_tup, gIx_t0, gIx_t1, gIx_l0, gIx_l1, gIx_l2, gEqA_int, gEqA_str, gEqA_bl, gTup, gLst, Option.isSome_some, Bool.false_xor, Bool.true_xor, gFor, gNegI, gEqA_no, gIsN_lst, gIsN_tup, gIx_t2, Bool.not_not, dnE, dnL, decide_true, decide_false, gListL_lst, gTupL_lst, gListU_lst, gListU_tup, iOf_int, graphD, edD, optD, pvD, lvD, lvI, trD, Bool.xor_false, Bool.not_false, Bool.not_true]
        refine ⟨by decide, _, rfl, by omega, by omega, ?_⟩
        rw [Int.toNat_natCast, insE]
      · exact fin _ (fun _ => by omega) q _ _ _
      · have j0 : j = 0 := by omega
        subst j0
        rw [gh0] at gj
        exact fin _ (fun z => absurd (Option.some.inj gj).symm z) q _ _ _
  rintro ρ ⟨j, m, es, v4, v7, v8, hj, ez, hle, hw, hpr, rfl⟩
  cases m with
  | succ m => cases ez
  | zero =>
  have hj : j = i := hj
  try simp only [ownLst, ownObj, mTake, mOf, fAndV, fOrV, fArgs, fCons, fNil, fVar_0, fVar_s, fUn, fBin, fBool, startE, envOf, slot, gSeq, frzE, gComp, gCompD, wipe_nil, wipe_cons, List.map_cons, List.map_nil, List.cons_append, List.nil_append, List.append_nil, true_and, and_true, List.set_cons_zero, List.set_cons_succ, List.length_cons, List.length_nil, List.replicate_succ, List.replicate_zero, Nat.reduceSub, Nat.reduceAdd, Nat.reduceLT, DEnds.fn, bOf_bl, eq_self, reduceIte, Bool.false_eq_true, gNotV_bl, Bool.not_true, Bool.not_false, g2I_int, g2I0_int, g1I_int, gLen_lst, gLen_tup, gInt_int, gMax2_int, gMin2_int, gIsN_non, gIsN_obj, gIsN_dT, gIsN_dK, gIsN_int, xsOf_lst, tsOf_tup, gIx_t0, gIx_t1, gIx_l0, gIx_l1, gIx_l2, gEqA_int, gEqA_str, gEqA_bl, gTup, gLst, Option.isSome_some, Bool.false_xor, Bool.true_xor, gFor, gNegI, gEqA_no, gIsN_lst, gIsN_tup, gIx_t2, Bool.not_not, dnE, dnL, decide_true, decide_false, gListL_lst, gTupL_lst, gListU_lst, gListU_tup, iOf_int, graphD, edD, optD, pvD, lvD, lvI, trD, Bool.xor_false, Bool.not_false, Bool.not_true]
  refine rng_go (by omega) ?_
  refine forD_go (fun xs ρ => ∃ (j m : Nat) (es : List Ed) (v4 v7 v8 v9 v10 : Option (Nat × D)), j + m = many ∧ xs = (List.range' j m).map natD ∧ es.length = i + j ∧ Wf es i ∧ (∀ e ∈ es, e.2.1 ≠ h0 → pf ps e.2.1 ≤ pf ps e.1 + e.2.2) ∧
    ρ = [some (0, .raw (.ref b)), some (0, natD i), some (0, natD many), some (0, .lst (os.map natD)), v4, some (0, .lst (ps.map .int)), some (1, .lst (edsD es)), v7, v8, v9, v10]) ?_ ?_ _ _ ⟨0, many, es, _, _, _, none, none, by omega, rfl, by omega, hw, hpr, rfl⟩
  · rintro x r ρ ⟨j, m, es, v4, v7, v8, v9, v10, hj, ez, hle, hw, hpr, rfl⟩ N hN
    cases m with
    | zero => cases ez
    | succ m =>
      rw [List.range'_succ, List.map_cons] at ez
      injection ez with ez1 ez2
      subst ez1
      refine ⟨_, rfl, ?_⟩
      try simp only [ownLst, ownObj, mTake, mOf, fAndV, fOrV, fArgs, fCons, fNil, fVar_0, fVar_s, fUn, fBin, fBool, startE, envOf, slot, gSeq, frzE, gComp, gCompD, wipe_nil, wipe_cons, List.map_cons, List.map_nil, List.cons_append, List.nil_append, List.append_nil, true_and, and_true, List.set_cons_zero, List.set_cons_succ, List.length_cons, List.length_nil, List.replicate_succ, List.replicate_zero, Nat.reduceSub, Nat.reduceAdd, Nat.reduceLT, DEnds.fn, bOf_bl, eq_self, reduceIte, Bool.false_eq_true, gNotV_bl, Bool.not_true, Bool.not_false, g2I_int, g2I0_int, g1I_int, gLen_lst, gLen_tup, gInt_int, gMax2_int, gMin2_int, gIsN_non, gIsN_obj, gIsN_dT, gIsN_dK, gIsN_int, xsOf_lst, tsOf_tup, gIx_t0, gIx_t1, gIx_l0, gIx_l1, gIx_l2, gEqA_int, gEqA_str, gEqA_bl, gTup, gLst, Option.isSome_some, Bool.false_xor, Bool.true_xor, gFor, gNegI, gEqA_no, gIsN_lst, gIsN_tup, gIx_t2, Bool.not_not, dnE, dnL, decide_true, decide_false, gListL_lst, gTupL_lst, gListU_lst, gListU_tup, iOf_int, graphD, edD, optD, pvD, lvD, lvI, trD, Bool.xor_false, Bool.not_false, Bool.not_true]
      refine drawN i hb (by omega) (by omega) fun t ht => ?_
      try simp only [ownLst, ownObj, mTake, mOf, fAndV, fOrV, fArgs, fCons, fNil, fVar_0, fVar_s, fUn, fBin, fBool, startE, envOf, slot, gSeq, frzE, gComp, gCompD, wipe_nil, wipe_cons, List.map_cons, List.map_nil, List.cons_append, List.nil_append, List.append_nil, true_and, and_true, List.set_cons_zero, List.set_cons_succ, List.length_cons, List.length_nil, List.replicate_succ, List.replicate_zero, Nat.reduceSub, Nat.reduceAdd, Nat.reduceLT, DEnds.fn, bOf_bl, eq_self, reduceIte, Bool.false_eq_true, gNotV_bl, Bool.not_true, Bool.not_false, g2I_int, g2I0_int, g1I_int, gLen_lst, gLen_tup, gInt_int, gMax2_int, gMin2_int, gIsN_non, gIsN_obj, gIsN_dT, gIsN_dK, gIsN_int, xsOf_lst, tsOf_tup, gIx_t0, gIx_t1, gIx_l0, gIx_l1, gIx_l2, gEqA_int, gEqA_str, gEqA_bl, gTup, gLst, Option.isSome_some, Bool.false_xor, Bool.true_xor, gFor, gNegI, gEqA_no, gIsN_lst, gIsN_tup, gIx_t2, Bool.not_not, dnE, dnL, decide_true, decide_false, gListL_lst, gTupL_lst, gListU_lst, gListU_tup, iOf_int, graphD, edD, optD, pvD, lvD, lvI, trD, Bool.xor_false, Bool.not_false, Bool.not_true]
      refine drawN i hb (by omega) (by omega) fun v hv => ?_
      try simp only [ownLst, ownObj, mTake, mOf, fAndV, fOrV, fArgs, fCons, fNil, fVar_0, fVar_s, fUn, fBin, fBool, startE, envOf, slot, gSeq, frzE, gComp, gCompD, wipe_nil, wipe_cons, List.map_cons, List.map_nil, List.cons_append, List.nil_append, List.append_nil, true_and, and_true, List.set_cons_zero, List.set_cons_succ, List.length_cons, List.length_nil, List.replicate_succ, List.replicate_zero, Nat.reduceSub, Nat.reduceAdd, Nat.reduceLT, DEnds.fn, bOf_bl, eq_self, reduceIte, Bool.false_eq_true, gNotV_bl, Bool.not_true, Bool.not_false, g2I_int, g2I0_int, g1I_int, gLen_lst, gLen_tup, gInt_int, gMax2_int, gMin2_int, gIsN_non, gIsN_obj, gIsN_dT, gIsN_dK, gIsN_int, xsOf_lst, tsOf_tup, gIx_t0, gIx_t1, gIx_l0, gIx_l1, gIx_l2, gEqA_int, gEqA_str, gEqA_bl, gTup, gLst, Option.isSome_some, Bool.false_xor, Bool.true_xor, gFor, gNegI, gEqA_no, gIsN_lst, gIsN_tup, gIx_t2, Bool.not_not, dnE, dnL, decide_true, decide_false, gListL_lst, gTupL_lst, gListU_lst, gListU_tup, iOf_int, graphD, edD, optD, pvD, lvD, lvI, trD, Bool.xor_false, Bool.not_false, Bool.not_true]
      refine drawN 4 hb (by decide) (by decide) fun w hw4 => ?_
      try simp only [ownLst, ownObj, mTake, mOf, fAndV, fOrV, fArgs, fCons, fNil, fVar_0, fVar_s, fUn, fBin, fBool, startE, envOf, slot, gSeq, frzE, gComp, gCompD, wipe_nil, wipe_cons, List.map_cons, List.map_nil, List.cons_append, List.nil_append, List.append_nil, true_and, and_true, List.set_cons_zero, List.set_cons_succ, List.length_cons, List.length_nil, List.replicate_succ, List.replicate_zero, Nat.reduceSub, Nat.reduceAdd, Nat.reduceLT, DEnds.fn, bOf_bl, eq_self, reduceIte, Bool.false_eq_true, gNotV_bl, Bool.not_true, Bool.not_false, g2I_int, g2I0_int, g1I_int, gLen_lst, gLen_tup, gInt_int, gMax2_int, gMin2_int, gIsN_non, gIsN_obj, gIsN_dT, gIsN_dK, gIsN_int, xsOf_lst, tsOf_tup, gIx_t0, gIx_t1, gIx_l0, gIx_l1, gIx_l2, gEqA_int, gEqA_str, gEqA_bl, gTup, gLst, Option.isSome_some, Bool.false_xor, Bool.true_xor, gFor, gNegI, gEqA_no, gIsN_lst, gIsN_tup, gIx_t2, Bool.not_not, dnE, dnL, decide_true, decide_false, gListL_lst, gTupL_lst, gListU_lst, gListU_tup, iOf_int, graphD, edD, optD, pvD, lvD, lvI, trD, Bool.xor_false, Bool.not_false, Bool.not_true]
      have el : (edsD es).length = es.length := List.length_map ..
      rw [el]
      have g1 := ps_get (ps := ps) (v := v) (by omega)
      have g2 := ps_get (ps := ps) (v := t) (by omega)
      refine drawN (es.length + 1) hb (by omega) (by omega) fun q hq => ?_
      try simp only [ownLst, ownObj, mTake, mOf, fAndV, fOrV, fArgs, fCons, fNil, fVar_0, fVar_s, fUn, fBin, fBool, startE, envOf, slot, gSeq, frzE, gComp, gCompD, wipe_nil, wipe_cons, List.map_cons, List.map_nil, List.cons_append, List.nil_append, List.append_nil, true_and, and_true, List.set_cons_zero, List.set_cons_succ, List.length_cons, List.length_nil, List.replicate_succ, List.replicate_zero, Nat.reduceSub, Nat.reduceAdd, Nat.reduceLT, DEnds.fn, bOf_bl, eq_self, reduceIte, Bool.false_eq_true, gNotV_bl, Bool.not_true, Bool.not_false, g2I_int, g2I0_int, g1I_int, gLen_lst, gLen_tup, gInt_int, gMax2_int, gMin2_int, gIsN_non, gIsN_obj, gIsN_dT, gIsN_dK, gIsN_int, xsOf_lst, tsOf_tup, gIx_t0, gIx_t1, gIx_l0, gIx_l1, gIx_l2, gEqA_int, gEqA_str, gEqA_bl, gTup, gLst, Option.isSome_some, Bool.false_xor, Bool.true_xor, gFor, gNegI, gEqA_no, gIsN_lst, gIsN_tup, gIx_t2, Bool.not_not, dnE, dnL, decide_true, decide_false, gListL_lst, gTupL_lst, gListU_lst, gListU_tup, iOf_int, graphD, edD, optD, pvD, lvD, lvI, trD, Bool.xor_false, Bool.not_false, Bool.not_true]
      refine gIx_nat g1 ?_
      try simp only [ownLst, ownObj, mTake, mOf, fAndV, fOrV, fArgs, fCons, fNil, fVar_0, fVar_s, fUn, fBin, fBool, startE, envOf, slot, gSeq, frzE, gComp, gCompD, wipe_nil, wipe_cons, List.map_cons, List.map_nil, List.cons_append, List.nil_append, List.append_nil, true_and, and_true, List.set_cons_zero, List.set_cons_succ, List.length_cons, List.length_nil, List.replicate_succ, List.replicate_zero, Nat.reduceSub, Nat.reduceAdd, Nat.reduceLT, DEnds.fn, bOf_bl, eq_self, reduceIte, Bool.false_eq_true, gNotV_bl, Bool.not_true, Bool.not_false, g2I_int, g2I0_int, g1I_int, gLen_lst, gLen_tup, gInt_int, gMax2_int, gMin2_int, gIsN_non, gIsN_obj, gIsN_dT, gIsN_dK, gIsN_int, xsOf_lst, tsOf_tup, gIx_t0, gIx_t1, gIx_l0, gIx_l1, gIx_l2, gEqA_int, gEqA_str, gEqA_bl, gTup, gLst, Option.isSome_some, Bool.false_xor, Bool.true_xor, gFor, gNegI, gEqA_no, gIsN_lst, gIsN_tup, gIx_t2, Bool.not_not, dnE, dnL, decide_true, decide_false, gListL_lst, gTupL_lst, gListU_lst, gListU_tup, iOf_int, graphD, edD, optD, pvD, lvD, lvI, trD, Bool.xor_false, Bool.not_false, Bool.not_true]
      refine gIx_nat g2 ?_
      try simp only [ownLst, ownObj, mTake, mOf, fAndV, fOrV, fArgs, fCons, fNil, fVar_0, fVar_s, fUn, fBin, fBool, startE, envOf, slot, gSeq, frzE, gComp, gCompD, wipe_nil, wipe_cons, List.map_cons, List.map_nil, List.cons_append, List.nil_append, List.append_nil, true_and, and_true, List.set_cons_zero, List.set_cons_succ, List.length_cons, List.length_nil, List.replicate_succ, List.replicate_zero, Nat.reduceSub, Nat.reduceAdd, Nat.reduceLT, DEnds.fn, bOf_bl, eq_self, reduceIte, Bool.false_eq_true, gNotV_bl, Bool.not_true, Bool.not_false, g2I_int, g2I0_int, g1I_int, gLen_lst, gLen_tup, gInt_int, gMax2_int, gMin2_int, gIsN_non, gIsN_obj, gIsN_dT, gIsN_dK, gIsN_int, xsOf_lst, tsOf_tup, gIx_t0, gIx_t1, gIx_l0, gIx_l1, gIx_l2, gEqA_int, gEqA_str, gEqA_bl, gTup, gLst, Option.isSome_some, Bool.false_xor, Bool.true_xor, gFor, gNegI, gEqA_no, gIsN_lst, gIsN_tup, gIx_t2, Bool.not_not, dnE, dnL, decide_true, decide_false, gListL_lst, gTupL_lst, gListU_lst, gListU_tup, iOf_int, graphD, edD, optD, pvD, lvD, lvI, trD, Bool.xor_false, Bool.not_false, Bool.not_true]
      refine ⟨by decide, _, rfl, by omega, by omega, by rw [szL]; omega, ?_⟩
      rw [Int.toNat_natCast, insE]
      refine hN _ ⟨j + 1, m, _, _, _, _, _, _, by omega, ez2, by rw [insN_len]; omega, fun e he => ?_, fun e he => ?_, rfl⟩
      · rcases insN_mem he with z | z
        · rw [z]; exact ⟨ht, hv⟩
        · exact hw e z
      · rcases insN_mem he with z | z
        · rw [z]
          intro _
          show pf ps v ≤ pf ps t + (pf ps v - pf ps t + if (w : Int) - 1 > 0 then (w : Int) - 1 else 0)
          split <;> omega
        · exact hpr e z
  rintro ρ ⟨j, m, es, v4, v7, v8, v9, v10, hj, ez, hle, hw, hpr, rfl⟩
  cases m with
  | succ m => cases ez
  | zero =>
  have hj : j = many := hj
  try simp only [ownLst, ownObj, mTake, mOf, fAndV, fOrV, fArgs, fCons, fNil, fVar_0, fVar_s, fUn, fBin, fBool, startE, envOf, slot, gSeq, frzE, gComp, gCompD, wipe_nil, wipe_cons, List.map_cons, List.map_nil, List.cons_append, List.nil_append, List.append_nil, true_and, and_true, List.set_cons_zero, List.set_cons_succ, List.length_cons, List.length_nil, List.replicate_succ, List.replicate_zero, Nat.reduceSub, Nat.reduceAdd, Nat.reduceLT, DEnds.fn, bOf_bl, eq_self, reduceIte, Bool.false_eq_true, gNotV_bl, Bool.not_true, Bool.not_false, g2I_int, g2I0_int, g1I_int, gLen_lst, gLen_tup, gInt_int, gMax2_int, gMin2_int, gIsN_non, gIsN_obj, gIsN_dT, gIsN_dK, gIsN_int, xsOf_lst, tsOf_tup, gIx_t0, gIx_t1, gIx_l0, gIx_l1, gIx_l2, gEqA_int, gEqA_str, gEqA_bl, gTup, gLst, Option.isSome_some, Bool.false_xor, Bool.true_xor, gFor, gNegI, gEqA_no, gIsN_lst, gIsN_tup, gIx_t2, Bool.not_not, dnE, dnL, decide_true, decide_false, gListL_lst, gTupL_lst, gListU_lst, gListU_tup, iOf_int, graphD, edD, optD, pvD, lvD, lvI, trD, Bool.xor_false, Bool.not_false, Bool.not_true]
  refine gIx_nat (k := 0) (d := natD h0) (by rw [List.getElem?_map, gh0]; rfl) ?_
  try simp only [ownLst, ownObj, mTake, mOf, fAndV, fOrV, fArgs, fCons, fNil, fVar_0, fVar_s, fUn, fBin, fBool, startE, envOf, slot, gSeq, frzE, gComp, gCompD, wipe_nil, wipe_cons, List.map_cons, List.map_nil, List.cons_append, List.nil_append, List.append_nil, true_and, and_true, List.set_cons_zero, List.set_cons_succ, List.length_cons, List.length_nil, List.replicate_succ, List.replicate_zero, Nat.reduceSub, Nat.reduceAdd, Nat.reduceLT, DEnds.fn, bOf_bl, eq_self, reduceIte, Bool.false_eq_true, gNotV_bl, Bool.not_true, Bool.not_false, g2I_int, g2I0_int, g1I_int, gLen_lst, gLen_tup, gInt_int, gMax2_int, gMin2_int, gIsN_non, gIsN_obj, gIsN_dT, gIsN_dK, gIsN_int, xsOf_lst, tsOf_tup, gIx_t0, gIx_t1, gIx_l0, gIx_l1, gIx_l2, gEqA_int, gEqA_str, gEqA_bl, gTup, gLst, Option.isSome_some, Bool.false_xor, Bool.true_xor, gFor, gNegI, gEqA_no, gIsN_lst, gIsN_tup, gIx_t2, Bool.not_not, dnE, dnL, decide_true, decide_false, gListL_lst, gTupL_lst, gListU_lst, gListU_tup, iOf_int, graphD, edD, optD, pvD, lvD, lvI, trD, Bool.xor_false, Bool.not_false, Bool.not_true]
  refine ⟨by decide, by decide, ?_⟩
  exact hR es [h0] ⟨⟨hw, h2, by omega⟩, by simp, fun s hs => by rw [List.mem_singleton.mp hs]; exact ho h0 h0m, .inr ⟨pf ps, h0, by simp, fun x u v c e ne => hpr _ (List.mem_of_getElem? e) ne⟩⟩ (by omega)
abbrev s_law_graph : Stmt := topS 14
theorem sc_law_graph : FnScope ["bag", "kind", "count"] ["bag"] (defScope s_law_graph) := ⟨rfl, rfl, rfl, by decide +kernel, rfl, by decide +kernel, by decide +kernel⟩
theorem ok_law_graph {f : Addr} {fd : FuncData} (F : Fun K "_law_graph" "_law_graph" s_law_graph f fd) (T : Bi mg) (c_law_draw : Cal P w K mg base "_law_draw" 1 ["bag", "size"] (.own 0) [] wDraw) (c_law_round : Cal P w K mg base "_law_round" 2 ["bag", "count", "chords"] (.own 0) [] w_law_round) (c_law_small : Cal P w K mg base "_law_small" 3 ["bag", "count", "many"] (.own 0) [] w_law_small) : FnOk P w K mg base CX0 4 f fd ["bag"] (spD K (.own 0) w_law_graph) := by
  refine Fun_okD F sc_law_graph (fun _ _ _ h => by obtain ⟨_, _, e, _⟩ := h; rw [e]; rfl) fun B cdv A outer s H E hr => ⟨_, (ds_cons (ds_setM 1 0 sc_law_graph.nd rfl (by first | exact Or.inl rfl | exact Or.inr rfl) (by decide) (dm_of (de_C c_law_draw hr (da_cons (m := .own 0) (de_v 0) (da_cons (m := .own 0) (de_int (m := .own 0)) da_nil)))))
(ds_cons (ds_if (dt_eq (de_v 1) (de_int (m := .rd)))
(ds_one (ds_retM (dm_of (de_C c_law_round hr (da_cons (m := .own 0) (de_v 0) (da_cons (m := .own 0) (de_add (m := .own 0) (de_int (m := .rd)) (de_C c_law_draw hr (da_cons (m := .own 0) (de_v 0) (da_cons (m := .own 0) (de_int (m := .own 0)) da_nil)))) (da_cons (m := .own 0) (de_int (m := .own 0)) da_nil)))))))
ds_nil)
(ds_cons (ds_if (dt_lt (de_v 1) (de_int (m := .rd)))
(ds_one (ds_retM (dm_of (de_tup (da_cons (m := .own 0) (de_int (m := .own 0)) (da_cons (m := .own 0) (de_C c_law_small hr (da_cons (m := .own 0) (de_v 0) (da_cons (m := .own 0) (de_int (m := .own 0)) (da_cons (m := .own 0) (de_C c_law_draw hr (da_cons (m := .own 0) (de_v 0) (da_cons (m := .own 0) (de_int (m := .own 0)) da_nil))) da_nil)))) (da_cons (m := .own 0) (de_frz (de_listRg rfl T.list_ T.range_ (de_int (m := .rd)))) da_nil)))))))
ds_nil)
(ds_cons (ds_setM 2 0 sc_law_graph.nd rfl (by first | exact Or.inl rfl | exact Or.inr rfl) (by decide) (dm_of (de_C c_law_draw hr (da_cons (m := .own 0) (de_v 0) (da_cons (m := .own 0) (de_int (m := .own 0)) da_nil)))))
(ds_one (ds_retM (dm_of (de_tup (da_cons (m := .own 0) (de_v 2) (da_cons (m := .own 0) (de_C c_law_small hr (da_cons (m := .own 0) (de_v 0) (da_cons (m := .own 0) (de_v 2) (da_cons (m := .own 0) (de_C c_law_draw hr (da_cons (m := .own 0) (de_v 0) (da_cons (m := .own 0) (de_int (m := .own 0)) da_nil))) da_nil)))) (da_cons (m := .own 0) (de_frz (de_listRg rfl T.list_ T.range_ (de_v 2))) da_nil))))))))))), fun ds R ⟨b, hb, e, hR⟩ => ?_⟩
  subst e
  try simp only [ownLst, ownObj, mTake, mOf, fAndV, fOrV, fArgs, fCons, fNil, fVar_0, fVar_s, fUn, fBin, fBool, startE, envOf, slot, gSeq, frzE, gComp, gCompD, wipe_nil, wipe_cons, List.map_cons, List.map_nil, List.cons_append, List.nil_append, List.append_nil, true_and, and_true, List.set_cons_zero, List.set_cons_succ, List.length_cons, List.length_nil, List.replicate_succ, List.replicate_zero, Nat.reduceSub, Nat.reduceAdd, Nat.reduceLT, DEnds.fn, bOf_bl, eq_self, reduceIte, Bool.false_eq_true, gNotV_bl, Bool.not_true, Bool.not_false, g2I_int, g2I0_int, g1I_int, gLen_lst, gLen_tup, gInt_int, gMax2_int, gMin2_int, gIsN_non, gIsN_obj, gIsN_dT, gIsN_dK, gIsN_int, xsOf_lst, tsOf_tup, gIx_t0, gIx_t1, gIx_l0, gIx_l1, gIx_l2, gEqA_int, gEqA_str, gEqA_bl, gTup, gLst, Option.isSome_some, Bool.false_xor, Bool.true_xor, gFor, gNegI, gEqA_no, gIsN_lst, gIsN_tup, gIx_t2, Bool.not_not, dnE, dnL, decide_true, decide_false, gListL_lst, gTupL_lst, gListU_lst, gListU_tup, iOf_int, graphD, edD, optD, pvD, lvD, lvI, trD, Bool.xor_false, Bool.not_false, Bool.not_true]
  have hit : ∀ n es, GOk es n → GrOk n es (List.range' 0 n) := fun n es g => ⟨g, List.nodup_range', fun s hs => by
    have := List.mem_range'.mp hs
    omega, .inl fun v hv => List.mem_range'.mpr ⟨v, hv, by omega⟩⟩
  have lst : ∀ n, rangeD 0 n = (List.range' 0 n).map natD := fun n => by rw [rangeD0, List.range_eq_range']
  refine drawN 32 hb (by decide) (by decide) fun kind hk => ?_
  try simp only [ownLst, ownObj, mTake, mOf, fAndV, fOrV, fArgs, fCons, fNil, fVar_0, fVar_s, fUn, fBin, fBool, startE, envOf, slot, gSeq, frzE, gComp, gCompD, wipe_nil, wipe_cons, List.map_cons, List.map_nil, List.cons_append, List.nil_append, List.append_nil, true_and, and_true, List.set_cons_zero, List.set_cons_succ, List.length_cons, List.length_nil, List.replicate_succ, List.replicate_zero, Nat.reduceSub, Nat.reduceAdd, Nat.reduceLT, DEnds.fn, bOf_bl, eq_self, reduceIte, Bool.false_eq_true, gNotV_bl, Bool.not_true, Bool.not_false, g2I_int, g2I0_int, g1I_int, gLen_lst, gLen_tup, gInt_int, gMax2_int, gMin2_int, gIsN_non, gIsN_obj, gIsN_dT, gIsN_dK, gIsN_int, xsOf_lst, tsOf_tup, gIx_t0, gIx_t1, gIx_l0, gIx_l1, gIx_l2, gEqA_int, gEqA_str, gEqA_bl, gTup, gLst, Option.isSome_some, Bool.false_xor, Bool.true_xor, gFor, gNegI, gEqA_no, gIsN_lst, gIsN_tup, gIx_t2, Bool.not_not, dnE, dnL, decide_true, decide_false, gListL_lst, gTupL_lst, gListU_lst, gListU_tup, iOf_int, graphD, edD, optD, pvD, lvD, lvI, trD, Bool.xor_false, Bool.not_false, Bool.not_true]
  by_cases k0 : (kind : Int) = 0
  · rw [decide_eq_true k0]
    try simp only [ownLst, ownObj, mTake, mOf, fAndV, fOrV, fArgs, fCons, fNil, fVar_0, fVar_s, fUn, fBin, fBool, startE, envOf, slot, gSeq, frzE, gComp, gCompD, wipe_nil, wipe_cons, List.map_cons, List.map_nil, List.cons_append, List.nil_append, List.append_nil, true_and, and_true, List.set_cons_zero, List.set_cons_succ, List.length_cons, List.length_nil, List.replicate_succ, List.replicate_zero, Nat.reduceSub, Nat.reduceAdd, Nat.reduceLT, DEnds.fn, bOf_bl, eq_self, reduceIte, Bool.false_eq_true, gNotV_bl, Bool.not_true, Bool.not_false, g2I_int, g2I0_int, g1I_int, gLen_lst, gLen_tup, gInt_int, gMax2_int, gMin2_int, gIsN_non, gIsN_obj, gIsN_dT, gIsN_dK, gIsN_int, xsOf_lst, tsOf_tup, gIx_t0, gIx_t1, gIx_l0, gIx_l1, gIx_l2, gEqA_int, gEqA_str, gEqA_bl, gTup, gLst, Option.isSome_some, Bool.false_xor, Bool.true_xor, gFor, gNegI, gEqA_no, gIsN_lst, gIsN_tup, gIx_t2, Bool.not_not, dnE, dnL, decide_true, decide_false, gListL_lst, gTupL_lst, gListU_lst, gListU_tup, iOf_int, graphD, edD, optD, pvD, lvD, lvI, trD, Bool.xor_false, Bool.not_false, Bool.not_true]
    refine drawN 8 hb (by decide) (by decide) fun q hq => ?_
    try simp only [ownLst, ownObj, mTake, mOf, fAndV, fOrV, fArgs, fCons, fNil, fVar_0, fVar_s, fUn, fBin, fBool, startE, envOf, slot, gSeq, frzE, gComp, gCompD, wipe_nil, wipe_cons, List.map_cons, List.map_nil, List.cons_append, List.nil_append, List.append_nil, true_and, and_true, List.set_cons_zero, List.set_cons_succ, List.length_cons, List.length_nil, List.replicate_succ, List.replicate_zero, Nat.reduceSub, Nat.reduceAdd, Nat.reduceLT, DEnds.fn, bOf_bl, eq_self, reduceIte, Bool.false_eq_true, gNotV_bl, Bool.not_true, Bool.not_false, g2I_int, g2I0_int, g1I_int, gLen_lst, gLen_tup, gInt_int, gMax2_int, gMin2_int, gIsN_non, gIsN_obj, gIsN_dT, gIsN_dK, gIsN_int, xsOf_lst, tsOf_tup, gIx_t0, gIx_t1, gIx_l0, gIx_l1, gIx_l2, gEqA_int, gEqA_str, gEqA_bl, gTup, gLst, Option.isSome_some, Bool.false_xor, Bool.true_xor, gFor, gNegI, gEqA_no, gIsN_lst, gIsN_tup, gIx_t2, Bool.not_not, dnE, dnL, decide_true, decide_false, gListL_lst, gTupL_lst, gListU_lst, gListU_tup, iOf_int, graphD, edD, optD, pvD, lvD, lvI, trD, Bool.xor_false, Bool.not_false, Bool.not_true]
    exact ⟨b, 64 + q, 40, hb, rfl, by omega, by omega, by omega, fun es st g h => hR _ es st g (by omega)⟩
  rw [decide_eq_false k0]
  try simp only [ownLst, ownObj, mTake, mOf, fAndV, fOrV, fArgs, fCons, fNil, fVar_0, fVar_s, fUn, fBin, fBool, startE, envOf, slot, gSeq, frzE, gComp, gCompD, wipe_nil, wipe_cons, List.map_cons, List.map_nil, List.cons_append, List.nil_append, List.append_nil, true_and, and_true, List.set_cons_zero, List.set_cons_succ, List.length_cons, List.length_nil, List.replicate_succ, List.replicate_zero, Nat.reduceSub, Nat.reduceAdd, Nat.reduceLT, DEnds.fn, bOf_bl, eq_self, reduceIte, Bool.false_eq_true, gNotV_bl, Bool.not_true, Bool.not_false, g2I_int, g2I0_int, g1I_int, gLen_lst, gLen_tup, gInt_int, gMax2_int, gMin2_int, gIsN_non, gIsN_obj, gIsN_dT, gIsN_dK, gIsN_int, xsOf_lst, tsOf_tup, gIx_t0, gIx_t1, gIx_l0, gIx_l1, gIx_l2, gEqA_int, gEqA_str, gEqA_bl, gTup, gLst, Option.isSome_some, Bool.false_xor, Bool.true_xor, gFor, gNegI, gEqA_no, gIsN_lst, gIsN_tup, gIx_t2, Bool.not_not, dnE, dnL, decide_true, decide_false, gListL_lst, gTupL_lst, gListU_lst, gListU_tup, iOf_int, graphD, edD, optD, pvD, lvD, lvI, trD, Bool.xor_false, Bool.not_false, Bool.not_true]
  by_cases k5 : (kind : Int) < 5
  · rw [decide_eq_true k5]
    try simp only [ownLst, ownObj, mTake, mOf, fAndV, fOrV, fArgs, fCons, fNil, fVar_0, fVar_s, fUn, fBin, fBool, startE, envOf, slot, gSeq, frzE, gComp, gCompD, wipe_nil, wipe_cons, List.map_cons, List.map_nil, List.cons_append, List.nil_append, List.append_nil, true_and, and_true, List.set_cons_zero, List.set_cons_succ, List.length_cons, List.length_nil, List.replicate_succ, List.replicate_zero, Nat.reduceSub, Nat.reduceAdd, Nat.reduceLT, DEnds.fn, bOf_bl, eq_self, reduceIte, Bool.false_eq_true, gNotV_bl, Bool.not_true, Bool.not_false, g2I_int, g2I0_int, g1I_int, gLen_lst, gLen_tup, gInt_int, gMax2_int, gMin2_int, gIsN_non, gIsN_obj, gIsN_dT, gIsN_dK, gIsN_int, xsOf_lst, tsOf_tup, gIx_t0, gIx_t1, gIx_l0, gIx_l1, gIx_l2, gEqA_int, gEqA_str, gEqA_bl, gTup, gLst, Option.isSome_some, Bool.false_xor, Bool.true_xor, gFor, gNegI, gEqA_no, gIsN_lst, gIsN_tup, gIx_t2, Bool.not_not, dnE, dnL, decide_true, decide_false, gListL_lst, gTupL_lst, gListU_lst, gListU_tup, iOf_int, graphD, edD, optD, pvD, lvD, lvI, trD, Bool.xor_false, Bool.not_false, Bool.not_true]
    refine drawN 29 hb (by decide) (by decide) fun q hq => ?_
    refine ⟨b, 14, q, hb, rfl, by omega, by omega, fun es hl w => ?_⟩
    refine ⟨by decide, by decide, ?_⟩
    rw [show (14 : Int).toNat = 14 from rfl, lst]
    exact ⟨by decide, hR 14 es _ (hit 14 es ⟨w, by omega, by omega⟩) (by omega)⟩
  rw [decide_eq_false k5]
  try simp only [ownLst, ownObj, mTake, mOf, fAndV, fOrV, fArgs, fCons, fNil, fVar_0, fVar_s, fUn, fBin, fBool, startE, envOf, slot, gSeq, frzE, gComp, gCompD, wipe_nil, wipe_cons, List.map_cons, List.map_nil, List.cons_append, List.nil_append, List.append_nil, true_and, and_true, List.set_cons_zero, List.set_cons_succ, List.length_cons, List.length_nil, List.replicate_succ, List.replicate_zero, Nat.reduceSub, Nat.reduceAdd, Nat.reduceLT, DEnds.fn, bOf_bl, eq_self, reduceIte, Bool.false_eq_true, gNotV_bl, Bool.not_true, Bool.not_false, g2I_int, g2I0_int, g1I_int, gLen_lst, gLen_tup, gInt_int, gMax2_int, gMin2_int, gIsN_non, gIsN_obj, gIsN_dT, gIsN_dK, gIsN_int, xsOf_lst, tsOf_tup, gIx_t0, gIx_t1, gIx_l0, gIx_l1, gIx_l2, gEqA_int, gEqA_str, gEqA_bl, gTup, gLst, Option.isSome_some, Bool.false_xor, Bool.true_xor, gFor, gNegI, gEqA_no, gIsN_lst, gIsN_tup, gIx_t2, Bool.not_not, dnE, dnL, decide_true, decide_false, gListL_lst, gTupL_lst, gListU_lst, gListU_tup, iOf_int, graphD, edD, optD, pvD, lvD, lvI, trD, Bool.xor_false, Bool.not_false, Bool.not_true]
  refine drawN 6 hb (by decide) (by decide) fun n hn => ?_
  try simp only [ownLst, ownObj, mTake, mOf, fAndV, fOrV, fArgs, fCons, fNil, fVar_0, fVar_s, fUn, fBin, fBool, startE, envOf, slot, gSeq, frzE, gComp, gCompD, wipe_nil, wipe_cons, List.map_cons, List.map_nil, List.cons_append, List.nil_append, List.append_nil, true_and, and_true, List.set_cons_zero, List.set_cons_succ, List.length_cons, List.length_nil, List.replicate_succ, List.replicate_zero, Nat.reduceSub, Nat.reduceAdd, Nat.reduceLT, DEnds.fn, bOf_bl, eq_self, reduceIte, Bool.false_eq_true, gNotV_bl, Bool.not_true, Bool.not_false, g2I_int, g2I0_int, g1I_int, gLen_lst, gLen_tup, gInt_int, gMax2_int, gMin2_int, gIsN_non, gIsN_obj, gIsN_dT, gIsN_dK, gIsN_int, xsOf_lst, tsOf_tup, gIx_t0, gIx_t1, gIx_l0, gIx_l1, gIx_l2, gEqA_int, gEqA_str, gEqA_bl, gTup, gLst, Option.isSome_some, Bool.false_xor, Bool.true_xor, gFor, gNegI, gEqA_no, gIsN_lst, gIsN_tup, gIx_t2, Bool.not_not, dnE, dnL, decide_true, decide_false, gListL_lst, gTupL_lst, gListU_lst, gListU_tup, iOf_int, graphD, edD, optD, pvD, lvD, lvI, trD, Bool.xor_false, Bool.not_false, Bool.not_true]
  refine drawN 11 hb (by decide) (by decide) fun q hq => ?_
  refine ⟨b, n, q, hb, rfl, by omega, by omega, fun es hl w => ?_⟩
  try simp only [ownLst, ownObj, mTake, mOf, fAndV, fOrV, fArgs, fCons, fNil, fVar_0, fVar_s, fUn, fBin, fBool, startE, envOf, slot, gSeq, frzE, gComp, gCompD, wipe_nil, wipe_cons, List.map_cons, List.map_nil, List.cons_append, List.nil_append, List.append_nil, true_and, and_true, List.set_cons_zero, List.set_cons_succ, List.length_cons, List.length_nil, List.replicate_succ, List.replicate_zero, Nat.reduceSub, Nat.reduceAdd, Nat.reduceLT, DEnds.fn, bOf_bl, eq_self, reduceIte, Bool.false_eq_true, gNotV_bl, Bool.not_true, Bool.not_false, g2I_int, g2I0_int, g1I_int, gLen_lst, gLen_tup, gInt_int, gMax2_int, gMin2_int, gIsN_non, gIsN_obj, gIsN_dT, gIsN_dK, gIsN_int, xsOf_lst, tsOf_tup, gIx_t0, gIx_t1, gIx_l0, gIx_l1, gIx_l2, gEqA_int, gEqA_str, gEqA_bl, gTup, gLst, Option.isSome_some, Bool.false_xor, Bool.true_xor, gFor, gNegI, gEqA_no, gIsN_lst, gIsN_tup, gIx_t2, Bool.not_not, dnE, dnL, decide_true, decide_false, gListL_lst, gTupL_lst, gListU_lst, gListU_tup, iOf_int, graphD, edD, optD, pvD, lvD, lvI, trD, Bool.xor_false, Bool.not_false, Bool.not_true]
  refine ⟨by omega, by omega, ?_⟩
  rw [Int.toNat_natCast, lst]
  exact ⟨by decide, hR n es _ (hit n es ⟨w, by omega, by omega⟩) (by omega)⟩
abbrev s_law_integers : Stmt := topS 15
theorem sc_law_integers : FnScope ["value", "item"] ["value"] (defScope s_law_integers) := ⟨rfl, rfl, rfl, by decide +kernel, rfl, by decide +kernel, by decide +kernel⟩
theorem ok_law_integers {f : Addr} {fd : FuncData} (F : Fun K "_law_integers" "_law_integers" s_law_integers f fd) (T : Bi mg)  : FnOk P w K mg base CX0 1 f fd ["value"] (spD K (.own 0) w_law_integers) := by
  refine Fun_okD F sc_law_integers (fun _ _ _ h => by obtain ⟨_, e, _, _⟩ := h; rw [e]; rfl) fun B cdv A outer s H E hr => ⟨_, (ds_cons (ds_if (dt_not (dt_val (de_isiK (m := .rd) K (by rfl) T.isinstance_ (de_v 0) (de_ty (m := .rd) (T := "list") (by rfl) T.list_ (by decide +kernel)))))
(ds_one (ds_retM (dm_of (de_bl (m := .own 0)))))
ds_nil)
(ds_one (ds_retM (dm_of (de_eq (m := .own 0) (de_len (m := .rd) T.len_ (de_frz (de_lc (own := [("item", 1)]) 0 rfl sc_law_integers.nd (di_list (de_v 0)) (blk_of ["value", "item"] (defScope s_law_integers) rfl (by decide +kernel) (by decide +kernel) (by decide +kernel) (by decide +kernel)) (dgc_name 1 sc_law_integers.nd rfl) (hol_cons rfl (fun _ _ => rfl) hol_nil) (fun _ _ _ _ _ => dts_one (dt_bool (dw_or (dt_not (dt_val (de_isiK (m := .rd) K (by rfl) T.isinstance_ (de_v 1) (de_ty (m := .rd) (T := "int") (by rfl) T.int_ (by decide +kernel))))) (dw_or1 (dt_val (de_isiK (m := .rd) K (by rfl) T.isinstance_ (de_v 1) (de_ty (m := .rd) (T := "bool") (by rfl) T.bool_ (by decide +kernel)))))))) (fun _ _ _ _ _ => (de_int (m := .own 0)))))) (de_int (m := .rd))))))), fun ds R ⟨is, e, hl, hR⟩ => ?_⟩
  subst e
  try simp only [ownLst, ownObj, mTake, mOf, fAndV, fOrV, fArgs, fCons, fNil, fVar_0, fVar_s, fUn, fBin, fBool, startE, envOf, slot, gSeq, frzE, gComp, gCompD, wipe_nil, wipe_cons, List.map_cons, List.map_nil, List.cons_append, List.nil_append, List.append_nil, true_and, and_true, List.set_cons_zero, List.set_cons_succ, List.length_cons, List.length_nil, List.replicate_succ, List.replicate_zero, Nat.reduceSub, Nat.reduceAdd, Nat.reduceLT, DEnds.fn, bOf_bl, eq_self, reduceIte, Bool.false_eq_true, gNotV_bl, Bool.not_true, Bool.not_false, g2I_int, g2I0_int, g1I_int, gLen_lst, gLen_tup, gInt_int, gMax2_int, gMin2_int, gIsN_non, gIsN_obj, gIsN_dT, gIsN_dK, gIsN_int, xsOf_lst, tsOf_tup, gIx_t0, gIx_t1, gIx_l0, gIx_l1, gIx_l2, gEqA_int, gEqA_str, gEqA_bl, gTup, gLst, Option.isSome_some, Bool.false_xor, Bool.true_xor, gFor, gNegI, gEqA_no, gIsN_lst, gIsN_tup, gIx_t2, Bool.not_not, dnE, dnL, decide_true, decide_false, gListL_lst, gTupL_lst, gListU_lst, gListU_tup, iOf_int, graphD, edD, optD, pvD, lvD, lvI, trD, Bool.xor_false, Bool.not_false, Bool.not_true]
  refine gIsi_go (a := "list") (b := true) rfl rfl (fun _ _ e => by cases e) ?_
  try simp only [ownLst, ownObj, mTake, mOf, fAndV, fOrV, fArgs, fCons, fNil, fVar_0, fVar_s, fUn, fBin, fBool, startE, envOf, slot, gSeq, frzE, gComp, gCompD, wipe_nil, wipe_cons, List.map_cons, List.map_nil, List.cons_append, List.nil_append, List.append_nil, true_and, and_true, List.set_cons_zero, List.set_cons_succ, List.length_cons, List.length_nil, List.replicate_succ, List.replicate_zero, Nat.reduceSub, Nat.reduceAdd, Nat.reduceLT, DEnds.fn, bOf_bl, eq_self, reduceIte, Bool.false_eq_true, gNotV_bl, Bool.not_true, Bool.not_false, g2I_int, g2I0_int, g1I_int, gLen_lst, gLen_tup, gInt_int, gMax2_int, gMin2_int, gIsN_non, gIsN_obj, gIsN_dT, gIsN_dK, gIsN_int, xsOf_lst, tsOf_tup, gIx_t0, gIx_t1, gIx_l0, gIx_l1, gIx_l2, gEqA_int, gEqA_str, gEqA_bl, gTup, gLst, Option.isSome_some, Bool.false_xor, Bool.true_xor, gFor, gNegI, gEqA_no, gIsN_lst, gIsN_tup, gIx_t2, Bool.not_not, dnE, dnL, decide_true, decide_false, gListL_lst, gTupL_lst, gListU_lst, gListU_tup, iOf_int, graphD, edD, optD, pvD, lvD, lvI, trD, Bool.xor_false, Bool.not_false, Bool.not_true]
  refine compD_map (xs := is) natD (fun _ => none) (fun k hk N hN => ⟨_, rfl, ?_⟩) (by rw [szL]; omega) ?_
  · try simp only [ownLst, ownObj, mTake, mOf, fAndV, fOrV, fArgs, fCons, fNil, fVar_0, fVar_s, fUn, fBin, fBool, startE, envOf, slot, gSeq, frzE, gComp, gCompD, wipe_nil, wipe_cons, List.map_cons, List.map_nil, List.cons_append, List.nil_append, List.append_nil, true_and, and_true, List.set_cons_zero, List.set_cons_succ, List.length_cons, List.length_nil, List.replicate_succ, List.replicate_zero, Nat.reduceSub, Nat.reduceAdd, Nat.reduceLT, DEnds.fn, bOf_bl, eq_self, reduceIte, Bool.false_eq_true, gNotV_bl, Bool.not_true, Bool.not_false, g2I_int, g2I0_int, g1I_int, gLen_lst, gLen_tup, gInt_int, gMax2_int, gMin2_int, gIsN_non, gIsN_obj, gIsN_dT, gIsN_dK, gIsN_int, xsOf_lst, tsOf_tup, gIx_t0, gIx_t1, gIx_l0, gIx_l1, gIx_l2, gEqA_int, gEqA_str, gEqA_bl, gTup, gLst, Option.isSome_some, Bool.false_xor, Bool.true_xor, gFor, gNegI, gEqA_no, gIsN_lst, gIsN_tup, gIx_t2, Bool.not_not, dnE, dnL, decide_true, decide_false, gListL_lst, gTupL_lst, gListU_lst, gListU_tup, iOf_int, graphD, edD, optD, pvD, lvD, lvI, trD, Bool.xor_false, Bool.not_false, Bool.not_true]
    refine gIsi_go (a := "int") (b := true) rfl rfl (fun _ _ e => by cases e) ?_
    try simp only [ownLst, ownObj, mTake, mOf, fAndV, fOrV, fArgs, fCons, fNil, fVar_0, fVar_s, fUn, fBin, fBool, startE, envOf, slot, gSeq, frzE, gComp, gCompD, wipe_nil, wipe_cons, List.map_cons, List.map_nil, List.cons_append, List.nil_append, List.append_nil, true_and, and_true, List.set_cons_zero, List.set_cons_succ, List.length_cons, List.length_nil, List.replicate_succ, List.replicate_zero, Nat.reduceSub, Nat.reduceAdd, Nat.reduceLT, DEnds.fn, bOf_bl, eq_self, reduceIte, Bool.false_eq_true, gNotV_bl, Bool.not_true, Bool.not_false, g2I_int, g2I0_int, g1I_int, gLen_lst, gLen_tup, gInt_int, gMax2_int, gMin2_int, gIsN_non, gIsN_obj, gIsN_dT, gIsN_dK, gIsN_int, xsOf_lst, tsOf_tup, gIx_t0, gIx_t1, gIx_l0, gIx_l1, gIx_l2, gEqA_int, gEqA_str, gEqA_bl, gTup, gLst, Option.isSome_some, Bool.false_xor, Bool.true_xor, gFor, gNegI, gEqA_no, gIsN_lst, gIsN_tup, gIx_t2, Bool.not_not, dnE, dnL, decide_true, decide_false, gListL_lst, gTupL_lst, gListU_lst, gListU_tup, iOf_int, graphD, edD, optD, pvD, lvD, lvI, trD, Bool.xor_false, Bool.not_false, Bool.not_true]
    refine gIsi_go (a := "int") (b := false) rfl rfl (fun _ _ e => by cases e) ?_
    try simp only [ownLst, ownObj, mTake, mOf, fAndV, fOrV, fArgs, fCons, fNil, fVar_0, fVar_s, fUn, fBin, fBool, startE, envOf, slot, gSeq, frzE, gComp, gCompD, wipe_nil, wipe_cons, List.map_cons, List.map_nil, List.cons_append, List.nil_append, List.append_nil, true_and, and_true, List.set_cons_zero, List.set_cons_succ, List.length_cons, List.length_nil, List.replicate_succ, List.replicate_zero, Nat.reduceSub, Nat.reduceAdd, Nat.reduceLT, DEnds.fn, bOf_bl, eq_self, reduceIte, Bool.false_eq_true, gNotV_bl, Bool.not_true, Bool.not_false, g2I_int, g2I0_int, g1I_int, gLen_lst, gLen_tup, gInt_int, gMax2_int, gMin2_int, gIsN_non, gIsN_obj, gIsN_dT, gIsN_dK, gIsN_int, xsOf_lst, tsOf_tup, gIx_t0, gIx_t1, gIx_l0, gIx_l1, gIx_l2, gEqA_int, gEqA_str, gEqA_bl, gTup, gLst, Option.isSome_some, Bool.false_xor, Bool.true_xor, gFor, gNegI, gEqA_no, gIsN_lst, gIsN_tup, gIx_t2, Bool.not_not, dnE, dnL, decide_true, decide_false, gListL_lst, gTupL_lst, gListU_lst, gListU_tup, iOf_int, graphD, edD, optD, pvD, lvD, lvI, trD, Bool.xor_false, Bool.not_false, Bool.not_true]
    exact hN
  · rw [fm_none]
    try simp only [ownLst, ownObj, mTake, mOf, fAndV, fOrV, fArgs, fCons, fNil, fVar_0, fVar_s, fUn, fBin, fBool, startE, envOf, slot, gSeq, frzE, gComp, gCompD, wipe_nil, wipe_cons, List.map_cons, List.map_nil, List.cons_append, List.nil_append, List.append_nil, true_and, and_true, List.set_cons_zero, List.set_cons_succ, List.length_cons, List.length_nil, List.replicate_succ, List.replicate_zero, Nat.reduceSub, Nat.reduceAdd, Nat.reduceLT, DEnds.fn, bOf_bl, eq_self, reduceIte, Bool.false_eq_true, gNotV_bl, Bool.not_true, Bool.not_false, g2I_int, g2I0_int, g1I_int, gLen_lst, gLen_tup, gInt_int, gMax2_int, gMin2_int, gIsN_non, gIsN_obj, gIsN_dT, gIsN_dK, gIsN_int, xsOf_lst, tsOf_tup, gIx_t0, gIx_t1, gIx_l0, gIx_l1, gIx_l2, gEqA_int, gEqA_str, gEqA_bl, gTup, gLst, Option.isSome_some, Bool.false_xor, Bool.true_xor, gFor, gNegI, gEqA_no, gIsN_lst, gIsN_tup, gIx_t2, Bool.not_not, dnE, dnL, decide_true, decide_false, gListL_lst, gTupL_lst, gListU_lst, gListU_tup, iOf_int, graphD, edD, optD, pvD, lvD, lvI, trD, Bool.xor_false, Bool.not_false, Bool.not_true]
    exact hR
abbrev s_law_ring : Stmt := topS 16
theorem sc_law_ring : FnScope ["edges", "ring", "index", "tails", "heads", "k"] ["edges", "ring"] (defScope s_law_ring) := ⟨rfl, rfl, rfl, by decide +kernel, rfl, by decide +kernel, by decide +kernel⟩
theorem ok_law_ring {f : Addr} {fd : FuncData} (F : Fun K "_law_ring" "_law_ring" s_law_ring f fd) (T : Bi mg)  : FnOk P w K mg base CX0 1 f fd ["edges", "ring"] (spD K (.own 0) w_law_ring) := by
  refine Fun_okD F sc_law_ring (fun _ _ _ h => by obtain ⟨_, _, _, _, e, _, _, _⟩ := h; rw [e]; rfl) fun B cdv A outer s H E hr => ⟨_, (ds_cons (ds_if (dt_bool (dw_or (dt_eq (de_len (m := .rd) T.len_ (de_v 1)) (de_int (m := .rd))) (dw_or1 (dt_gt (de_len (m := .rd) T.len_ (de_frz (de_lc (own := [("index", 2)]) 0 rfl sc_law_ring.nd (di_list (de_v 1)) (blk_of ["edges", "ring", "index", "tails", "heads", "k"] (defScope s_law_ring) rfl (by decide +kernel) (by decide +kernel) (by decide +kernel) (by decide +kernel)) (dgc_name 2 sc_law_ring.nd rfl) (hol_cons rfl (fun _ _ => rfl) hol_nil) (fun _ _ _ _ _ => dts_one (dt_bool (dw_or (dt_lt (de_v 2) (de_int (m := .rd))) (dw_or1 (dt_ge (de_v 2) (de_len (m := .rd) T.len_ (de_v 0))))))) (fun _ _ _ _ _ => (de_int (m := .own 0)))))) (de_int (m := .rd))))))
(ds_one (ds_retM (dm_of (de_bl (m := .own 0)))))
ds_nil)
(ds_cons (ds_setLc (own := [("index", 2)]) 3 0 rfl sc_law_ring.nd rfl rfl (by decide) (sw_true rfl rfl rfl rfl) (di_list (de_v 1)) (blk_of ["edges", "ring", "index", "tails", "heads", "k"] (defScope s_law_ring) rfl (by decide +kernel) (by decide +kernel) (by decide +kernel) (by decide +kernel)) (dgc_name 2 sc_law_ring.nd rfl) (hol_cons rfl (fun _ _ => rfl) hol_nil) (fun _ _ _ _ _ => dts_nil) (fun _ _ _ _ _ => (de_at (de_at (de_v 0) (de_v 2)) (de_int (m := .rd)))))
(ds_cons (ds_frz 3 (ds_setLc (own := [("index", 2)]) 4 0 rfl sc_law_ring.nd rfl rfl (by decide) (sw_true rfl rfl rfl rfl) (di_list (de_v 1)) (blk_of ["edges", "ring", "index", "tails", "heads", "k"] (defScope s_law_ring) rfl (by decide +kernel) (by decide +kernel) (by decide +kernel) (by decide +kernel)) (dgc_name 2 sc_law_ring.nd rfl) (hol_cons rfl (fun _ _ => rfl) hol_nil) (fun _ _ _ _ _ => dts_nil) (fun _ _ _ _ _ => (de_at (de_at (de_v 0) (de_v 2)) (de_int (m := .rd))))))
(ds_cons (ds_frz 4 (ds_for PassesOwn.never rfl (di_range T.range_ (de_len (m := .rd) T.len_ (de_v 1))) (dg_name 5 sc_law_ring.nd rfl (by first | exact Or.inl rfl | exact Or.inr rfl) (by decide))
(ds_one (ds_if (dt_bool (dw_or (dt_ne (de_at (de_v 4) (de_sub (m := .rd) (de_v 5) (de_int (m := .rd)))) (de_at (de_v 3) (de_v 5))) (dw_or1 (dt_in (de_at (de_v 3) (de_v 5)) (de_frz (de_slL (de_v 3) do_none (do_some (de_v 5))))))))
(ds_one (ds_retM (dm_of (de_bl (m := .own 0)))))
ds_nil))))
(ds_one (ds_retM (dm_of (de_lt (m := .own 0) (de_sum (m := .rd) rfl T.sum_ (de_frz (de_lc (own := [("index", 2)]) 0 rfl sc_law_ring.nd (di_list (de_v 1)) (blk_of ["edges", "ring", "index", "tails", "heads", "k"] (defScope s_law_ring) rfl (by decide +kernel) (by decide +kernel) (by decide +kernel) (by decide +kernel)) (dgc_name 2 sc_law_ring.nd rfl) (hol_cons rfl (fun _ _ => rfl) hol_nil) (fun _ _ _ _ _ => dts_nil) (fun _ _ _ _ _ => (de_at (de_at (de_v 0) (de_v 2)) (de_int (m := .rd))))))) (de_int (m := .rd)))))))))), fun ds R ⟨es, is, n, s, e, ok, hm, hR⟩ => ?_⟩
  subst e
  have hlen := hm.le ok.wf
  have n1 := ok.n0
  obtain ⟨ne, wk, neg, least⟩ := id hm
  have pos : 0 < is.length := List.length_pos_iff.mpr ne
  have hix := wk_ix wk
  try simp only [ownLst, ownObj, mTake, mOf, fAndV, fOrV, fArgs, fCons, fNil, fVar_0, fVar_s, fUn, fBin, fBool, startE, envOf, slot, gSeq, frzE, gComp, gCompD, wipe_nil, wipe_cons, List.map_cons, List.map_nil, List.cons_append, List.nil_append, List.append_nil, true_and, and_true, List.set_cons_zero, List.set_cons_succ, List.length_cons, List.length_nil, List.replicate_succ, List.replicate_zero, Nat.reduceSub, Nat.reduceAdd, Nat.reduceLT, DEnds.fn, bOf_bl, eq_self, reduceIte, Bool.false_eq_true, gNotV_bl, Bool.not_true, Bool.not_false, g2I_int, g2I0_int, g1I_int, gLen_lst, gLen_tup, gInt_int, gMax2_int, gMin2_int, gIsN_non, gIsN_obj, gIsN_dT, gIsN_dK, gIsN_int, xsOf_lst, tsOf_tup, gIx_t0, gIx_t1, gIx_l0, gIx_l1, gIx_l2, gEqA_int, gEqA_str, gEqA_bl, gTup, gLst, Option.isSome_some, Bool.false_xor, Bool.true_xor, gFor, gNegI, gEqA_no, gIsN_lst, gIsN_tup, gIx_t2, Bool.not_not, dnE, dnL, decide_true, decide_false, gListL_lst, gTupL_lst, gListU_lst, gListU_tup, iOf_int, graphD, edD, optD, pvD, lvD, lvI, trD, Bool.xor_false, Bool.not_false, Bool.not_true]
  rw [List.length_map, decide_eq_false (by omega)]
  try simp only [ownLst, ownObj, mTake, mOf, fAndV, fOrV, fArgs, fCons, fNil, fVar_0, fVar_s, fUn, fBin, fBool, startE, envOf, slot, gSeq, frzE, gComp, gCompD, wipe_nil, wipe_cons, List.map_cons, List.map_nil, List.cons_append, List.nil_append, List.append_nil, true_and, and_true, List.set_cons_zero, List.set_cons_succ, List.length_cons, List.length_nil, List.replicate_succ, List.replicate_zero, Nat.reduceSub, Nat.reduceAdd, Nat.reduceLT, DEnds.fn, bOf_bl, eq_self, reduceIte, Bool.false_eq_true, gNotV_bl, Bool.not_true, Bool.not_false, g2I_int, g2I0_int, g1I_int, gLen_lst, gLen_tup, gInt_int, gMax2_int, gMin2_int, gIsN_non, gIsN_obj, gIsN_dT, gIsN_dK, gIsN_int, xsOf_lst, tsOf_tup, gIx_t0, gIx_t1, gIx_l0, gIx_l1, gIx_l2, gEqA_int, gEqA_str, gEqA_bl, gTup, gLst, Option.isSome_some, Bool.false_xor, Bool.true_xor, gFor, gNegI, gEqA_no, gIsN_lst, gIsN_tup, gIx_t2, Bool.not_not, dnE, dnL, decide_true, decide_false, gListL_lst, gTupL_lst, gListU_lst, gListU_tup, iOf_int, graphD, edD, optD, pvD, lvD, lvI, trD, Bool.xor_false, Bool.not_false, Bool.not_true]
  refine compD_map (xs := is) natD (fun _ => none) (fun k hk N hN => ⟨_, rfl, ?_⟩) (by rw [szL]; omega) ?_
  · try simp only [ownLst, ownObj, mTake, mOf, fAndV, fOrV, fArgs, fCons, fNil, fVar_0, fVar_s, fUn, fBin, fBool, startE, envOf, slot, gSeq, frzE, gComp, gCompD, wipe_nil, wipe_cons, List.map_cons, List.map_nil, List.cons_append, List.nil_append, List.append_nil, true_and, and_true, List.set_cons_zero, List.set_cons_succ, List.length_cons, List.length_nil, List.replicate_succ, List.replicate_zero, Nat.reduceSub, Nat.reduceAdd, Nat.reduceLT, DEnds.fn, bOf_bl, eq_self, reduceIte, Bool.false_eq_true, gNotV_bl, Bool.not_true, Bool.not_false, g2I_int, g2I0_int, g1I_int, gLen_lst, gLen_tup, gInt_int, gMax2_int, gMin2_int, gIsN_non, gIsN_obj, gIsN_dT, gIsN_dK, gIsN_int, xsOf_lst, tsOf_tup, gIx_t0, gIx_t1, gIx_l0, gIx_l1, gIx_l2, gEqA_int, gEqA_str, gEqA_bl, gTup, gLst, Option.isSome_some, Bool.false_xor, Bool.true_xor, gFor, gNegI, gEqA_no, gIsN_lst, gIsN_tup, gIx_t2, Bool.not_not, dnE, dnL, decide_true, decide_false, gListL_lst, gTupL_lst, gListU_lst, gListU_tup, iOf_int, graphD, edD, optD, pvD, lvD, lvI, trD, Bool.xor_false, Bool.not_false, Bool.not_true]
    rw [decide_eq_false (by omega)]
    try simp only [ownLst, ownObj, mTake, mOf, fAndV, fOrV, fArgs, fCons, fNil, fVar_0, fVar_s, fUn, fBin, fBool, startE, envOf, slot, gSeq, frzE, gComp, gCompD, wipe_nil, wipe_cons, List.map_cons, List.map_nil, List.cons_append, List.nil_append, List.append_nil, true_and, and_true, List.set_cons_zero, List.set_cons_succ, List.length_cons, List.length_nil, List.replicate_succ, List.replicate_zero, Nat.reduceSub, Nat.reduceAdd, Nat.reduceLT, DEnds.fn, bOf_bl, eq_self, reduceIte, Bool.false_eq_true, gNotV_bl, Bool.not_true, Bool.not_false, g2I_int, g2I0_int, g1I_int, gLen_lst, gLen_tup, gInt_int, gMax2_int, gMin2_int, gIsN_non, gIsN_obj, gIsN_dT, gIsN_dK, gIsN_int, xsOf_lst, tsOf_tup, gIx_t0, gIx_t1, gIx_l0, gIx_l1, gIx_l2, gEqA_int, gEqA_str, gEqA_bl, gTup, gLst, Option.isSome_some, Bool.false_xor, Bool.true_xor, gFor, gNegI, gEqA_no, gIsN_lst, gIsN_tup, gIx_t2, Bool.not_not, dnE, dnL, decide_true, decide_false, gListL_lst, gTupL_lst, gListU_lst, gListU_tup, iOf_int, graphD, edD, optD, pvD, lvD, lvI, trD, Bool.xor_false, Bool.not_false, Bool.not_true]
    rw [show (edsD es).length = es.length from List.length_map ..]
    have := hix k hk
    rw [decide_eq_false (by omega)]
    exact hN
  rw [fm_none]
  try simp only [ownLst, ownObj, mTake, mOf, fAndV, fOrV, fArgs, fCons, fNil, fVar_0, fVar_s, fUn, fBin, fBool, startE, envOf, slot, gSeq, frzE, gComp, gCompD, wipe_nil, wipe_cons, List.map_cons, List.map_nil, List.cons_append, List.nil_append, List.append_nil, true_and, and_true, List.set_cons_zero, List.set_cons_succ, List.length_cons, List.length_nil, List.replicate_succ, List.replicate_zero, Nat.reduceSub, Nat.reduceAdd, Nat.reduceLT, DEnds.fn, bOf_bl, eq_self, reduceIte, Bool.false_eq_true, gNotV_bl, Bool.not_true, Bool.not_false, g2I_int, g2I0_int, g1I_int, gLen_lst, gLen_tup, gInt_int, gMax2_int, gMin2_int, gIsN_non, gIsN_obj, gIsN_dT, gIsN_dK, gIsN_int, xsOf_lst, tsOf_tup, gIx_t0, gIx_t1, gIx_l0, gIx_l1, gIx_l2, gEqA_int, gEqA_str, gEqA_bl, gTup, gLst, Option.isSome_some, Bool.false_xor, Bool.true_xor, gFor, gNegI, gEqA_no, gIsN_lst, gIsN_tup, gIx_t2, Bool.not_not, dnE, dnL, decide_true, decide_false, gListL_lst, gTupL_lst, gListU_lst, gListU_tup, iOf_int, graphD, edD, optD, pvD, lvD, lvI, trD, Bool.xor_false, Bool.not_false, Bool.not_true]
  rw [decide_eq_false (by decide)]
  try simp only [ownLst, ownObj, mTake, mOf, fAndV, fOrV, fArgs, fCons, fNil, fVar_0, fVar_s, fUn, fBin, fBool, startE, envOf, slot, gSeq, frzE, gComp, gCompD, wipe_nil, wipe_cons, List.map_cons, List.map_nil, List.cons_append, List.nil_append, List.append_nil, true_and, and_true, List.set_cons_zero, List.set_cons_succ, List.length_cons, List.length_nil, List.replicate_succ, List.replicate_zero, Nat.reduceSub, Nat.reduceAdd, Nat.reduceLT, DEnds.fn, bOf_bl, eq_self, reduceIte, Bool.false_eq_true, gNotV_bl, Bool.not_true, Bool.not_false, g2I_int, g2I0_int, g1I_int, gLen_lst, gLen_tup, gInt_int, gMax2_int, gMin2_int, gIsN_non, gIsN_obj, gIsN_dT, gIsN_dK, gIsN_int, xsOf_lst, tsOf_tup, gIx_t0, gIx_t1, gIx_l0, gIx_l1, gIx_l2, gEqA_int, gEqA_str, gEqA_bl, gTup, gLst, Option.isSome_some, Bool.false_xor, Bool.true_xor, gFor, gNegI, gEqA_no, gIsN_lst, gIsN_tup, gIx_t2, Bool.not_not, dnE, dnL, decide_true, decide_false, gListL_lst, gTupL_lst, gListU_lst, gListU_tup, iOf_int, graphD, edD, optD, pvD, lvD, lvI, trD, Bool.xor_false, Bool.not_false, Bool.not_true]
  have ge : ∀ i ∈ is, ∃ e, es[i]? = some e := fun i hi => ⟨_, List.getElem?_eq_getElem (hix i hi)⟩
  refine compD_map (xs := is) natD (fun i => some (natD (tl es i))) (fun k hk N hN => ⟨_, rfl, ?_⟩) (by rw [szL]; omega) ?_
  · obtain ⟨⟨u, v, c⟩, e⟩ := ge k hk
    try simp only [ownLst, ownObj, mTake, mOf, fAndV, fOrV, fArgs, fCons, fNil, fVar_0, fVar_s, fUn, fBin, fBool, startE, envOf, slot, gSeq, frzE, gComp, gCompD, wipe_nil, wipe_cons, List.map_cons, List.map_nil, List.cons_append, List.nil_append, List.append_nil, true_and, and_true, List.set_cons_zero, List.set_cons_succ, List.length_cons, List.length_nil, List.replicate_succ, List.replicate_zero, Nat.reduceSub, Nat.reduceAdd, Nat.reduceLT, DEnds.fn, bOf_bl, eq_self, reduceIte, Bool.false_eq_true, gNotV_bl, Bool.not_true, Bool.not_false, g2I_int, g2I0_int, g1I_int, gLen_lst, gLen_tup, gInt_int, gMax2_int, gMin2_int, gIsN_non, gIsN_obj, gIsN_dT, gIsN_dK, gIsN_int, xsOf_lst, tsOf_tup, gIx_t0, gIx_t1, gIx_l0, gIx_l1, gIx_l2, gEqA_int, gEqA_str, gEqA_bl, gTup, gLst, Option.isSome_some, Bool.false_xor, Bool.true_xor, gFor, gNegI, gEqA_no, gIsN_lst, gIsN_tup, gIx_t2, Bool.not_not, dnE, dnL, decide_true, decide_false, gListL_lst, gTupL_lst, gListU_lst, gListU_tup, iOf_int, graphD, edD, optD, pvD, lvD, lvI, trD, Bool.xor_false, Bool.not_false, Bool.not_true]
    refine gIx_nat (edsD_get e) ?_
    try simp only [ownLst, ownObj, mTake, mOf, fAndV, fOrV, fArgs, fCons, fNil, fVar_0, fVar_s, fUn, fBin, fBool, startE, envOf, slot, gSeq, frzE, gComp, gCompD, wipe_nil, wipe_cons, List.map_cons, List.map_nil, List.cons_append, List.nil_append, List.append_nil, true_and, and_true, List.set_cons_zero, List.set_cons_succ, List.length_cons, List.length_nil, List.replicate_succ, List.replicate_zero, Nat.reduceSub, Nat.reduceAdd, Nat.reduceLT, DEnds.fn, bOf_bl, eq_self, reduceIte, Bool.false_eq_true, gNotV_bl, Bool.not_true, Bool.not_false, g2I_int, g2I0_int, g1I_int, gLen_lst, gLen_tup, gInt_int, gMax2_int, gMin2_int, gIsN_non, gIsN_obj, gIsN_dT, gIsN_dK, gIsN_int, xsOf_lst, tsOf_tup, gIx_t0, gIx_t1, gIx_l0, gIx_l1, gIx_l2, gEqA_int, gEqA_str, gEqA_bl, gTup, gLst, Option.isSome_some, Bool.false_xor, Bool.true_xor, gFor, gNegI, gEqA_no, gIsN_lst, gIsN_tup, gIx_t2, Bool.not_not, dnE, dnL, decide_true, decide_false, gListL_lst, gTupL_lst, gListU_lst, gListU_tup, iOf_int, graphD, edD, optD, pvD, lvD, lvI, trD, Bool.xor_false, Bool.not_false, Bool.not_true]
    rw [tl_at e] at hN
    exact hN
  refine compD_map (xs := is) natD (fun i => some (natD (hd es i))) (fun k hk N hN => ⟨_, rfl, ?_⟩) (by rw [szL]; omega) ?_
  · obtain ⟨⟨u, v, c⟩, e⟩ := ge k hk
    try simp only [ownLst, ownObj, mTake, mOf, fAndV, fOrV, fArgs, fCons, fNil, fVar_0, fVar_s, fUn, fBin, fBool, startE, envOf, slot, gSeq, frzE, gComp, gCompD, wipe_nil, wipe_cons, List.map_cons, List.map_nil, List.cons_append, List.nil_append, List.append_nil, true_and, and_true, List.set_cons_zero, List.set_cons_succ, List.length_cons, List.length_nil, List.replicate_succ, List.replicate_zero, Nat.reduceSub, Nat.reduceAdd, Nat.reduceLT, DEnds.fn, bOf_bl, eq_self, reduceIte, Bool.false_eq_true, gNotV_bl, Bool.not_true, Bool.not_false, g2I_int, g2I0_int, g1I_int, gLen_lst, gLen_tup, gInt_int, gMax2_int, gMin2_int, gIsN_non, gIsN_obj, gIsN_dT, gIsN_dK, gIsN_int, xsOf_lst, tsOf_tup, gIx_t0, gIx_t1, gIx_l0, gIx_l1, gIx_l2, gEqA_int, gEqA_str, gEqA_bl, gTup, gLst, Option.isSome_some, Bool.false_xor, Bool.true_xor, gFor, gNegI, gEqA_no, gIsN_lst, gIsN_tup, gIx_t2, Bool.not_not, dnE, dnL, decide_true, decide_false, gListL_lst, gTupL_lst, gListU_lst, gListU_tup, iOf_int, graphD, edD, optD, pvD, lvD, lvI, trD, Bool.xor_false, Bool.not_false, Bool.not_true]
    refine gIx_nat (edsD_get e) ?_
    try simp only [ownLst, ownObj, mTake, mOf, fAndV, fOrV, fArgs, fCons, fNil, fVar_0, fVar_s, fUn, fBin, fBool, startE, envOf, slot, gSeq, frzE, gComp, gCompD, wipe_nil, wipe_cons, List.map_cons, List.map_nil, List.cons_append, List.nil_append, List.append_nil, true_and, and_true, List.set_cons_zero, List.set_cons_succ, List.length_cons, List.length_nil, List.replicate_succ, List.replicate_zero, Nat.reduceSub, Nat.reduceAdd, Nat.reduceLT, DEnds.fn, bOf_bl, eq_self, reduceIte, Bool.false_eq_true, gNotV_bl, Bool.not_true, Bool.not_false, g2I_int, g2I0_int, g1I_int, gLen_lst, gLen_tup, gInt_int, gMax2_int, gMin2_int, gIsN_non, gIsN_obj, gIsN_dT, gIsN_dK, gIsN_int, xsOf_lst, tsOf_tup, gIx_t0, gIx_t1, gIx_l0, gIx_l1, gIx_l2, gEqA_int, gEqA_str, gEqA_bl, gTup, gLst, Option.isSome_some, Bool.false_xor, Bool.true_xor, gFor, gNegI, gEqA_no, gIsN_lst, gIsN_tup, gIx_t2, Bool.not_not, dnE, dnL, decide_true, decide_false, gListL_lst, gTupL_lst, gListU_lst, gListU_tup, iOf_int, graphD, edD, optD, pvD, lvD, lvI, trD, Bool.xor_false, Bool.not_false, Bool.not_true]
    rw [hd_at e] at hN
    exact hN
  rw [List.filterMap_eq_map', List.filterMap_eq_map', show (fun i => natD (tl es i)) = natD ∘ tl es from rfl, show (fun i => natD (hd es i)) = natD ∘ hd es from rfl, ← List.map_map, ← List.map_map]
  have nd := hm.tails
  have hh := wk_heads wk
  have h0 : (is.map (tl es))[0]? = some s := by
    cases is with
    | nil => exact absurd rfl ne
    | cons i is => rw [List.map_cons]; show some (tl es i) = some s; rw [wk_tl wk]
  have lt : (is.map (tl es)).length = is.length := List.length_map ..
  have lh : (is.map (hd es)).length = is.length := List.length_map ..
  revert nd hh h0 lt lh
  generalize is.map (tl es) = ts
  generalize is.map (hd es) = hs
  intro nd hh h0 lt lh
  refine rng_go (by omega) ?_
  refine forD_go (fun xs ρ => ∃ (k m : Nat) (v5 : Option (Nat × D)), k + m = is.length ∧ xs = (List.range' k m).map natD ∧ ρ = [some (0, .lst (edsD es)), some (0, .lst (is.map natD)), none, some (0, .lst (ts.map natD)), some (0, .lst (hs.map natD)), v5]) ?_ ?_ _ _ ⟨0, is.length, none, by omega, rfl, rfl⟩
  · rintro x r ρ ⟨k, m, v5, hk, ex, rfl⟩ N hN
    cases m with
    | zero => cases ex
    | succ m =>
      rw [List.range'_succ, List.map_cons] at ex
      injection ex with ex1 ex2
      subst ex1
      have hkl : k < ts.length := by omega
      have gk : (ts.map natD)[k]? = some (natD ts[k]) := by rw [List.getElem?_map, List.getElem?_eq_getElem hkl]; rfl
      have prev : atI (hs.map natD) ((k : Int) - 1) = some (natD ts[k]) := by
        unfold atI
        rw [List.length_map]
        cases k with
        | zero =>
          have e1 : ixN hs.length (((0 : Nat) : Int) - 1) = some (is.length - 1) := by
            unfold ixN
            rw [if_neg (by omega), if_pos (by omega)]
            congr 1
            omega
          rw [e1]
          show (hs.map natD)[is.length - 1]? = _
          rw [List.getElem?_map, hh (is.length - 1) (by omega), if_neg (by omega)]
          rw [List.getElem?_eq_getElem hkl] at h0
          rw [Option.some.inj h0]; rfl
        | succ k =>
          have e1 : ixN hs.length (((k + 1 : Nat) : Int) - 1) = some k := by
            rw [show ((k + 1 : Nat) : Int) - 1 = (k : Int) by omega]
            exact ixN_nat (by omega)
          rw [e1]
          show (hs.map natD)[k]? = _
          rw [List.getElem?_map, hh k (by omega), if_pos (by omega), List.getElem?_eq_getElem hkl]; rfl
      refine ⟨_, rfl, ?_⟩
      try simp only [ownLst, ownObj, mTake, mOf, fAndV, fOrV, fArgs, fCons, fNil, fVar_0, fVar_s, fUn, fBin, fBool, startE, envOf, slot, gSeq, frzE, gComp, gCompD, wipe_nil, wipe_cons, List.map_cons, List.map_nil, List.cons_append, List.nil_append, List.append_nil, true_and, and_true, List.set_cons_zero, List.set_cons_succ, List.length_cons, List.length_nil, List.replicate_succ, List.replicate_zero, Nat.reduceSub, Nat.reduceAdd, Nat.reduceLT, DEnds.fn, bOf_bl, eq_self, reduceIte, Bool.false_eq_true, gNotV_bl, Bool.not_true, Bool.not_false, g2I_int, g2I0_int, g1I_int, gLen_lst, gLen_tup, gInt_int, gMax2_int, gMin2_int, gIsN_non, gIsN_obj, gIsN_dT, gIsN_dK, gIsN_int, xsOf_lst, tsOf_tup, gIx_t0, gIx_t1, gIx_l0, gIx_l1, gIx_l2, gEqA_int, gEqA_str, gEqA_bl, gTup, gLst, Option.isSome_some, Bool.false_xor, Bool.true_xor, gFor, gNegI, gEqA_no, gIsN_lst, gIsN_tup, gIx_t2, Bool.not_not, dnE, dnL, decide_true, decide_false, gListL_lst, gTupL_lst, gListU_lst, gListU_tup, iOf_int, graphD, edD, optD, pvD, lvD, lvI, trD, Bool.xor_false, Bool.not_false, Bool.not_true]
      refine ⟨_, prev, ?_⟩
      try simp only [ownLst, ownObj, mTake, mOf, fAndV, fOrV, fArgs, fCons, fNil, fVar_0, fVar_s, fUn, fBin, fBool, startE, envOf, slot, gSeq, frzE, gComp, gCompD, wipe_nil, wipe_cons, List.map_cons, List.map_nil, List.cons_append, List.nil_append, List.append_nil, true_and, and_true, List.set_cons_zero, List.set_cons_succ, List.length_cons, List.length_nil, List.replicate_succ, List.replicate_zero, Nat.reduceSub, Nat.reduceAdd, Nat.reduceLT, DEnds.fn, bOf_bl, eq_self, reduceIte, Bool.false_eq_true, gNotV_bl, Bool.not_true, Bool.not_false, g2I_int, g2I0_int, g1I_int, gLen_lst, gLen_tup, gInt_int, gMax2_int, gMin2_int, gIsN_non, gIsN_obj, gIsN_dT, gIsN_dK, gIsN_int, xsOf_lst, tsOf_tup, gIx_t0, gIx_t1, gIx_l0, gIx_l1, gIx_l2, gEqA_int, gEqA_str, gEqA_bl, gTup, gLst, Option.isSome_some, Bool.false_xor, Bool.true_xor, gFor, gNegI, gEqA_no, gIsN_lst, gIsN_tup, gIx_t2, Bool.not_not, dnE, dnL, decide_true, decide_false, gListL_lst, gTupL_lst, gListU_lst, gListU_tup, iOf_int, graphD, edD, optD, pvD, lvD, lvI, trD, Bool.xor_false, Bool.not_false, Bool.not_true]
      refine gIx_nat gk ?_
      try simp only [ownLst, ownObj, mTake, mOf, fAndV, fOrV, fArgs, fCons, fNil, fVar_0, fVar_s, fUn, fBin, fBool, startE, envOf, slot, gSeq, frzE, gComp, gCompD, wipe_nil, wipe_cons, List.map_cons, List.map_nil, List.cons_append, List.nil_append, List.append_nil, true_and, and_true, List.set_cons_zero, List.set_cons_succ, List.length_cons, List.length_nil, List.replicate_succ, List.replicate_zero, Nat.reduceSub, Nat.reduceAdd, Nat.reduceLT, DEnds.fn, bOf_bl, eq_self, reduceIte, Bool.false_eq_true, gNotV_bl, Bool.not_true, Bool.not_false, g2I_int, g2I0_int, g1I_int, gLen_lst, gLen_tup, gInt_int, gMax2_int, gMin2_int, gIsN_non, gIsN_obj, gIsN_dT, gIsN_dK, gIsN_int, xsOf_lst, tsOf_tup, gIx_t0, gIx_t1, gIx_l0, gIx_l1, gIx_l2, gEqA_int, gEqA_str, gEqA_bl, gTup, gLst, Option.isSome_some, Bool.false_xor, Bool.true_xor, gFor, gNegI, gEqA_no, gIsN_lst, gIsN_tup, gIx_t2, Bool.not_not, dnE, dnL, decide_true, decide_false, gListL_lst, gTupL_lst, gListU_lst, gListU_tup, iOf_int, graphD, edD, optD, pvD, lvD, lvI, trD, Bool.xor_false, Bool.not_false, Bool.not_true]
      refine gIx_nat gk ?_
      try simp only [ownLst, ownObj, mTake, mOf, fAndV, fOrV, fArgs, fCons, fNil, fVar_0, fVar_s, fUn, fBin, fBool, startE, envOf, slot, gSeq, frzE, gComp, gCompD, wipe_nil, wipe_cons, List.map_cons, List.map_nil, List.cons_append, List.nil_append, List.append_nil, true_and, and_true, List.set_cons_zero, List.set_cons_succ, List.length_cons, List.length_nil, List.replicate_succ, List.replicate_zero, Nat.reduceSub, Nat.reduceAdd, Nat.reduceLT, DEnds.fn, bOf_bl, eq_self, reduceIte, Bool.false_eq_true, gNotV_bl, Bool.not_true, Bool.not_false, g2I_int, g2I0_int, g1I_int, gLen_lst, gLen_tup, gInt_int, gMax2_int, gMin2_int, gIsN_non, gIsN_obj, gIsN_dT, gIsN_dK, gIsN_int, xsOf_lst, tsOf_tup, gIx_t0, gIx_t1, gIx_l0, gIx_l1, gIx_l2, gEqA_int, gEqA_str, gEqA_bl, gTup, gLst, Option.isSome_some, Bool.false_xor, Bool.true_xor, gFor, gNegI, gEqA_no, gIsN_lst, gIsN_tup, gIx_t2, Bool.not_not, dnE, dnL, decide_true, decide_false, gListL_lst, gTupL_lst, gListU_lst, gListU_tup, iOf_int, graphD, edD, optD, pvD, lvD, lvI, trD, Bool.xor_false, Bool.not_false, Bool.not_true]
      rw [gSlL_to (by rw [List.length_map]; omega), ← List.map_take]
      refine gIn_nats ?_
      rw [decide_eq_false (fun z => by
        obtain ⟨j, hj, e⟩ := List.mem_iff_getElem.mp z
        rw [List.getElem_take] at e
        rw [List.length_take] at hj
        have := (List.getElem_inj nd).mp e
        omega)]
      try simp only [ownLst, ownObj, mTake, mOf, fAndV, fOrV, fArgs, fCons, fNil, fVar_0, fVar_s, fUn, fBin, fBool, startE, envOf, slot, gSeq, frzE, gComp, gCompD, wipe_nil, wipe_cons, List.map_cons, List.map_nil, List.cons_append, List.nil_append, List.append_nil, true_and, and_true, List.set_cons_zero, List.set_cons_succ, List.length_cons, List.length_nil, List.replicate_succ, List.replicate_zero, Nat.reduceSub, Nat.reduceAdd, Nat.reduceLT, DEnds.fn, bOf_bl, eq_self, reduceIte, Bool.false_eq_true, gNotV_bl, Bool.not_true, Bool.not_false, g2I_int, g2I0_int, g1I_int, gLen_lst, gLen_tup, gInt_int, gMax2_int, gMin2_int, gIsN_non, gIsN_obj, gIsN_dT, gIsN_dK, gIsN_int, xsOf_lst, tsOf_tup, gIx_t0, gIx_t1, gIx_l0, gIx_l1, gIx_l2, gEqA_int, gEqA_str, gEqA_bl, gTup, gLst, Option.isSome_some, Bool.false_xor, Bool.true_xor, gFor, gNegI, gEqA_no, gIsN_lst, gIsN_tup, gIx_t2, Bool.not_not, dnE, dnL, decide_true, decide_false, gListL_lst, gTupL_lst, gListU_lst, gListU_tup, iOf_int, graphD, edD, optD, pvD, lvD, lvI, trD, Bool.xor_false, Bool.not_false, Bool.not_true]
      exact hN _ ⟨k + 1, m, _, by omega, ex2, rfl⟩
  · rintro ρ ⟨k, m, v5, hk, ex, rfl⟩
    try simp only [ownLst, ownObj, mTake, mOf, fAndV, fOrV, fArgs, fCons, fNil, fVar_0, fVar_s, fUn, fBin, fBool, startE, envOf, slot, gSeq, frzE, gComp, gCompD, wipe_nil, wipe_cons, List.map_cons, List.map_nil, List.cons_append, List.nil_append, List.append_nil, true_and, and_true, List.set_cons_zero, List.set_cons_succ, List.length_cons, List.length_nil, List.replicate_succ, List.replicate_zero, Nat.reduceSub, Nat.reduceAdd, Nat.reduceLT, DEnds.fn, bOf_bl, eq_self, reduceIte, Bool.false_eq_true, gNotV_bl, Bool.not_true, Bool.not_false, g2I_int, g2I0_int, g1I_int, gLen_lst, gLen_tup, gInt_int, gMax2_int, gMin2_int, gIsN_non, gIsN_obj, gIsN_dT, gIsN_dK, gIsN_int, xsOf_lst, tsOf_tup, gIx_t0, gIx_t1, gIx_l0, gIx_l1, gIx_l2, gEqA_int, gEqA_str, gEqA_bl, gTup, gLst, Option.isSome_some, Bool.false_xor, Bool.true_xor, gFor, gNegI, gEqA_no, gIsN_lst, gIsN_tup, gIx_t2, Bool.not_not, dnE, dnL, decide_true, decide_false, gListL_lst, gTupL_lst, gListU_lst, gListU_tup, iOf_int, graphD, edD, optD, pvD, lvD, lvI, trD, Bool.xor_false, Bool.not_false, Bool.not_true]
    refine compD_map (xs := is) natD (fun i => some (.int (cst es i))) (fun k hk N hN => ⟨_, rfl, ?_⟩) (by rw [szL]; omega) ?_
    · obtain ⟨⟨u, v, c⟩, e⟩ := ge k hk
      try simp only [ownLst, ownObj, mTake, mOf, fAndV, fOrV, fArgs, fCons, fNil, fVar_0, fVar_s, fUn, fBin, fBool, startE, envOf, slot, gSeq, frzE, gComp, gCompD, wipe_nil, wipe_cons, List.map_cons, List.map_nil, List.cons_append, List.nil_append, List.append_nil, true_and, and_true, List.set_cons_zero, List.set_cons_succ, List.length_cons, List.length_nil, List.replicate_succ, List.replicate_zero, Nat.reduceSub, Nat.reduceAdd, Nat.reduceLT, DEnds.fn, bOf_bl, eq_self, reduceIte, Bool.false_eq_true, gNotV_bl, Bool.not_true, Bool.not_false, g2I_int, g2I0_int, g1I_int, gLen_lst, gLen_tup, gInt_int, gMax2_int, gMin2_int, gIsN_non, gIsN_obj, gIsN_dT, gIsN_dK, gIsN_int, xsOf_lst, tsOf_tup, gIx_t0, gIx_t1, gIx_l0, gIx_l1, gIx_l2, gEqA_int, gEqA_str, gEqA_bl, gTup, gLst, Option.isSome_some, Bool.false_xor, Bool.true_xor, gFor, gNegI, gEqA_no, gIsN_lst, gIsN_tup, gIx_t2, Bool.not_not, dnE, dnL, decide_true, decide_false, gListL_lst, gTupL_lst, gListU_lst, gListU_tup, iOf_int, graphD, edD, optD, pvD, lvD, lvI, trD, Bool.xor_false, Bool.not_false, Bool.not_true]
      refine gIx_nat (edsD_get e) ?_
      try simp only [ownLst, ownObj, mTake, mOf, fAndV, fOrV, fArgs, fCons, fNil, fVar_0, fVar_s, fUn, fBin, fBool, startE, envOf, slot, gSeq, frzE, gComp, gCompD, wipe_nil, wipe_cons, List.map_cons, List.map_nil, List.cons_append, List.nil_append, List.append_nil, true_and, and_true, List.set_cons_zero, List.set_cons_succ, List.length_cons, List.length_nil, List.replicate_succ, List.replicate_zero, Nat.reduceSub, Nat.reduceAdd, Nat.reduceLT, DEnds.fn, bOf_bl, eq_self, reduceIte, Bool.false_eq_true, gNotV_bl, Bool.not_true, Bool.not_false, g2I_int, g2I0_int, g1I_int, gLen_lst, gLen_tup, gInt_int, gMax2_int, gMin2_int, gIsN_non, gIsN_obj, gIsN_dT, gIsN_dK, gIsN_int, xsOf_lst, tsOf_tup, gIx_t0, gIx_t1, gIx_l0, gIx_l1, gIx_l2, gEqA_int, gEqA_str, gEqA_bl, gTup, gLst, Option.isSome_some, Bool.false_xor, Bool.true_xor, gFor, gNegI, gEqA_no, gIsN_lst, gIsN_tup, gIx_t2, Bool.not_not, dnE, dnL, decide_true, decide_false, gListL_lst, gTupL_lst, gListU_lst, gListU_tup, iOf_int, graphD, edD, optD, pvD, lvD, lvI, trD, Bool.xor_false, Bool.not_false, Bool.not_true]
      rw [cst_at e] at hN
      exact hN
    rw [List.filterMap_eq_map', show (fun i => D.int (cst es i)) = D.int ∘ cst es from rfl, ← List.map_map]
    refine gSum_ints ?_
    rw [sum_cst]
    try simp only [ownLst, ownObj, mTake, mOf, fAndV, fOrV, fArgs, fCons, fNil, fVar_0, fVar_s, fUn, fBin, fBool, startE, envOf, slot, gSeq, frzE, gComp, gCompD, wipe_nil, wipe_cons, List.map_cons, List.map_nil, List.cons_append, List.nil_append, List.append_nil, true_and, and_true, List.set_cons_zero, List.set_cons_succ, List.length_cons, List.length_nil, List.replicate_succ, List.replicate_zero, Nat.reduceSub, Nat.reduceAdd, Nat.reduceLT, DEnds.fn, bOf_bl, eq_self, reduceIte, Bool.false_eq_true, gNotV_bl, Bool.not_true, Bool.not_false, g2I_int, g2I0_int, g1I_int, gLen_lst, gLen_tup, gInt_int, gMax2_int, gMin2_int, gIsN_non, gIsN_obj, gIsN_dT, gIsN_dK, gIsN_int, xsOf_lst, tsOf_tup, gIx_t0, gIx_t1, gIx_l0, gIx_l1, gIx_l2, gEqA_int, gEqA_str, gEqA_bl, gTup, gLst, Option.isSome_some, Bool.false_xor, Bool.true_xor, gFor, gNegI, gEqA_no, gIsN_lst, gIsN_tup, gIx_t2, Bool.not_not, dnE, dnL, decide_true, decide_false, gListL_lst, gTupL_lst, gListU_lst, gListU_tup, iOf_int, graphD, edD, optD, pvD, lvD, lvI, trD, Bool.xor_false, Bool.not_false, Bool.not_true]
    rw [decide_eq_true neg]
    exact hR
abbrev s_law_row : Stmt := topS 17
theorem sc_law_row : FnScope ["edges", "row", "found", "edge", "total"] ["edges", "row"] (defScope s_law_row) := ⟨rfl, rfl, rfl, by decide +kernel, rfl, by decide +kernel, by decide +kernel⟩
theorem ok_law_row {f : Addr} {fd : FuncData} (F : Fun K "_law_row" "_law_row" s_law_row f fd) (T : Bi mg)  : FnOk P w K mg base CX0 1 f fd ["edges", "row"] (spD K (.own 0) w_law_row) := by
  refine Fun_okD F sc_law_row (fun _ _ _ h => by obtain ⟨_, _, _, e, _, _⟩ := h; rw [e]; rfl) fun B cdv A outer s H E hr => ⟨_, (ds_cons (ds_setM 2 1 sc_law_row.nd rfl (by first | exact Or.inl rfl | exact Or.inr rfl) (by decide) (dm_of (de_dnewK 0)))
(ds_cons (ds_for PassesOwn.never rfl (di_list (de_v 0)) (dg_name 3 sc_law_row.nd rfl (by first | exact Or.inl rfl | exact Or.inr rfl) (by decide))
(ds_one (ds_if (dt_din (hr.u 1) (de_at (de_v 3) (de_int (m := .rd))) (de_v 1))
(ds_cons (ds_setM 4 0 sc_law_row.nd rfl (by first | exact Or.inl rfl | exact Or.inr rfl) (by decide) (dm_of (de_add (m := .own 0) (de_dget (hr.u 1) (de_v 1) (de_at (de_v 3) (de_int (m := .rd)))) (de_at (de_v 3) (de_int (m := .rd))))))
(ds_one (ds_if (dt_bool (dw_or (dt_dnotin (hr.u 1) (de_at (de_v 3) (de_int (m := .rd))) (de_var 2 1)) (dw_or1 (dt_lt (de_v 4) (de_dget (hr.u 1) (de_var 2 1) (de_at (de_v 3) (de_int (m := .rd))))))))
(ds_one (ds_putK 2 (hr.u 1) (dm_of (de_v 4)) (de_at (de_v 3) (de_int (m := .rd)))))
ds_nil)))
ds_nil)))
(ds_one (ds_frz 2 (ds_retM (dm_of (de_v 2))))))), fun ds R ⟨es, r, n, e, ok, hR⟩ => ?_⟩
  subst e
  have n1 := ok.le
  try simp only [ownLst, ownObj, mTake, mOf, fAndV, fOrV, fArgs, fCons, fNil, fVar_0, fVar_s, fUn, fBin, fBool, startE, envOf, slot, gSeq, frzE, gComp, gCompD, wipe_nil, wipe_cons, List.map_cons, List.map_nil, List.cons_append, List.nil_append, List.append_nil, true_and, and_true, List.set_cons_zero, List.set_cons_succ, List.length_cons, List.length_nil, List.replicate_succ, List.replicate_zero, Nat.reduceSub, Nat.reduceAdd, Nat.reduceLT, DEnds.fn, bOf_bl, eq_self, reduceIte, Bool.false_eq_true, gNotV_bl, Bool.not_true, Bool.not_false, g2I_int, g2I0_int, g1I_int, gLen_lst, gLen_tup, gInt_int, gMax2_int, gMin2_int, gIsN_non, gIsN_obj, gIsN_dT, gIsN_dK, gIsN_int, xsOf_lst, tsOf_tup, gIx_t0, gIx_t1, gIx_l0, gIx_l1, gIx_l2, gEqA_int, gEqA_str, gEqA_bl, gTup, gLst, Option.isSome_some, Bool.false_xor, Bool.true_xor, gFor, gNegI, gEqA_no, gIsN_lst, gIsN_tup, gIx_t2, Bool.not_not, dnE, dnL, decide_true, decide_false, gListL_lst, gTupL_lst, gListU_lst, gListU_tup, iOf_int, graphD, edD, optD, pvD, lvD, lvI, trD, Bool.xor_false, Bool.not_false, Bool.not_true]
  refine forD_go (fun xs ρ => ∃ (e1 : List Ed) (acc : List (Nat × Int)) (v3 v4 : Option (Nat × D)), xs = edsD e1 ∧ acc.length + e1.length ≤ 200 ∧ e1.foldl (lstep r) acc = lrow es r ∧ (acc.map (·.1)).Nodup ∧ ρ = [some (0, .lst (edsD es)), some (0, rowD r), some (1, rowD acc), v3, v4]) ?_ ?_ _ _ ⟨es, [], none, none, rfl, by simpa using n1, rfl, List.nodup_nil, rfl⟩
  · rintro x xr ρ ⟨e1, acc, v3, v4, ex, hl, hf, nd, rfl⟩ N hN
    cases e1 with
    | nil => cases ex
    | cons e e1 =>
      have ex : x :: xr = edD e :: edsD e1 := ex
      injection ex with ex1 ex2
      subst ex1
      rw [List.foldl_cons] at hf
      rw [List.length_cons] at hl
      obtain ⟨k1, k2, _⟩ := lkeys (row := r) (e := e) nd
      have nxt : ∀ v3 v4, N [some (0, .lst (edsD es)), some (0, rowD r), some (1, rowD (lstep r acc e)), v3, v4] := fun v3 v4 => hN _ ⟨e1, _, v3, v4, ex2, by omega, hf, k1, rfl⟩
      obtain ⟨u, v, c⟩ := e
      refine ⟨_, rfl, ?_⟩
      try simp only [ownLst, ownObj, mTake, mOf, fAndV, fOrV, fArgs, fCons, fNil, fVar_0, fVar_s, fUn, fBin, fBool, startE, envOf, slot, gSeq, frzE, gComp, gCompD, wipe_nil, wipe_cons, List.map_cons, List.map_nil, List.cons_append, List.nil_append, List.append_nil, true_and, and_true, List.set_cons_zero, List.set_cons_succ, List.length_cons, List.length_nil, List.replicate_succ, List.replicate_zero, Nat.reduceSub, Nat.reduceAdd, Nat.reduceLT, DEnds.fn, bOf_bl, eq_self, reduceIte, Bool.false_eq_true, gNotV_bl, Bool.not_true, Bool.not_false, g2I_int, g2I0_int, g1I_int, gLen_lst, gLen_tup, gInt_int, gMax2_int, gMin2_int, gIsN_non, gIsN_obj, gIsN_dT, gIsN_dK, gIsN_int, xsOf_lst, tsOf_tup, gIx_t0, gIx_t1, gIx_l0, gIx_l1, gIx_l2, gEqA_int, gEqA_str, gEqA_bl, gTup, gLst, Option.isSome_some, Bool.false_xor, Bool.true_xor, gFor, gNegI, gEqA_no, gIsN_lst, gIsN_tup, gIx_t2, Bool.not_not, dnE, dnL, decide_true, decide_false, gListL_lst, gTupL_lst, gListU_lst, gListU_tup, iOf_int, graphD, edD, optD, pvD, lvD, lvI, trD, Bool.xor_false, Bool.not_false, Bool.not_true]
      refine din_go ?_
      rcases g : gt r u with _ | b
      · try simp only [ownLst, ownObj, mTake, mOf, fAndV, fOrV, fArgs, fCons, fNil, fVar_0, fVar_s, fUn, fBin, fBool, startE, envOf, slot, gSeq, frzE, gComp, gCompD, wipe_nil, wipe_cons, List.map_cons, List.map_nil, List.cons_append, List.nil_append, List.append_nil, true_and, and_true, List.set_cons_zero, List.set_cons_succ, List.length_cons, List.length_nil, List.replicate_succ, List.replicate_zero, Nat.reduceSub, Nat.reduceAdd, Nat.reduceLT, DEnds.fn, bOf_bl, eq_self, reduceIte, Bool.false_eq_true, gNotV_bl, Bool.not_true, Bool.not_false, g2I_int, g2I0_int, g1I_int, gLen_lst, gLen_tup, gInt_int, gMax2_int, gMin2_int, gIsN_non, gIsN_obj, gIsN_dT, gIsN_dK, gIsN_int, xsOf_lst, tsOf_tup, gIx_t0, gIx_t1, gIx_l0, gIx_l1, gIx_l2, gEqA_int, gEqA_str, gEqA_bl, gTup, gLst, Option.isSome_some, Bool.false_xor, Bool.true_xor, gFor, gNegI, gEqA_no, gIsN_lst, gIsN_tup, gIx_t2, Bool.not_not, dnE, dnL, decide_true, decide_false, gListL_lst, gTupL_lst, gListU_lst, gListU_tup, iOf_int, graphD, edD, optD, pvD, lvD, lvI, trD, Bool.xor_false, Bool.not_false, Bool.not_true]
        have e0 : lstep r acc (u, v, c) = acc := by unfold lstep; rw [g]
        rw [e0] at nxt
        exact nxt _ _
      · try simp only [ownLst, ownObj, mTake, mOf, fAndV, fOrV, fArgs, fCons, fNil, fVar_0, fVar_s, fUn, fBin, fBool, startE, envOf, slot, gSeq, frzE, gComp, gCompD, wipe_nil, wipe_cons, List.map_cons, List.map_nil, List.cons_append, List.nil_append, List.append_nil, true_and, and_true, List.set_cons_zero, List.set_cons_succ, List.length_cons, List.length_nil, List.replicate_succ, List.replicate_zero, Nat.reduceSub, Nat.reduceAdd, Nat.reduceLT, DEnds.fn, bOf_bl, eq_self, reduceIte, Bool.false_eq_true, gNotV_bl, Bool.not_true, Bool.not_false, g2I_int, g2I0_int, g1I_int, gLen_lst, gLen_tup, gInt_int, gMax2_int, gMin2_int, gIsN_non, gIsN_obj, gIsN_dT, gIsN_dK, gIsN_int, xsOf_lst, tsOf_tup, gIx_t0, gIx_t1, gIx_l0, gIx_l1, gIx_l2, gEqA_int, gEqA_str, gEqA_bl, gTup, gLst, Option.isSome_some, Bool.false_xor, Bool.true_xor, gFor, gNegI, gEqA_no, gIsN_lst, gIsN_tup, gIx_t2, Bool.not_not, dnE, dnL, decide_true, decide_false, gListL_lst, gTupL_lst, gListU_lst, gListU_tup, iOf_int, graphD, edD, optD, pvD, lvD, lvI, trD, Bool.xor_false, Bool.not_false, Bool.not_true]
        refine dget_go g ?_
        try simp only [ownLst, ownObj, mTake, mOf, fAndV, fOrV, fArgs, fCons, fNil, fVar_0, fVar_s, fUn, fBin, fBool, startE, envOf, slot, gSeq, frzE, gComp, gCompD, wipe_nil, wipe_cons, List.map_cons, List.map_nil, List.cons_append, List.nil_append, List.append_nil, true_and, and_true, List.set_cons_zero, List.set_cons_succ, List.length_cons, List.length_nil, List.replicate_succ, List.replicate_zero, Nat.reduceSub, Nat.reduceAdd, Nat.reduceLT, DEnds.fn, bOf_bl, eq_self, reduceIte, Bool.false_eq_true, gNotV_bl, Bool.not_true, Bool.not_false, g2I_int, g2I0_int, g1I_int, gLen_lst, gLen_tup, gInt_int, gMax2_int, gMin2_int, gIsN_non, gIsN_obj, gIsN_dT, gIsN_dK, gIsN_int, xsOf_lst, tsOf_tup, gIx_t0, gIx_t1, gIx_l0, gIx_l1, gIx_l2, gEqA_int, gEqA_str, gEqA_bl, gTup, gLst, Option.isSome_some, Bool.false_xor, Bool.true_xor, gFor, gNegI, gEqA_no, gIsN_lst, gIsN_tup, gIx_t2, Bool.not_not, dnE, dnL, decide_true, decide_false, gListL_lst, gTupL_lst, gListU_lst, gListU_tup, iOf_int, graphD, edD, optD, pvD, lvD, lvI, trD, Bool.xor_false, Bool.not_false, Bool.not_true]
        refine din_go ?_
        rcases g2 : gt acc v with _ | t
        · try simp only [ownLst, ownObj, mTake, mOf, fAndV, fOrV, fArgs, fCons, fNil, fVar_0, fVar_s, fUn, fBin, fBool, startE, envOf, slot, gSeq, frzE, gComp, gCompD, wipe_nil, wipe_cons, List.map_cons, List.map_nil, List.cons_append, List.nil_append, List.append_nil, true_and, and_true, List.set_cons_zero, List.set_cons_succ, List.length_cons, List.length_nil, List.replicate_succ, List.replicate_zero, Nat.reduceSub, Nat.reduceAdd, Nat.reduceLT, DEnds.fn, bOf_bl, eq_self, reduceIte, Bool.false_eq_true, gNotV_bl, Bool.not_true, Bool.not_false, g2I_int, g2I0_int, g1I_int, gLen_lst, gLen_tup, gInt_int, gMax2_int, gMin2_int, gIsN_non, gIsN_obj, gIsN_dT, gIsN_dK, gIsN_int, xsOf_lst, tsOf_tup, gIx_t0, gIx_t1, gIx_l0, gIx_l1, gIx_l2, gEqA_int, gEqA_str, gEqA_bl, gTup, gLst, Option.isSome_some, Bool.false_xor, Bool.true_xor, gFor, gNegI, gEqA_no, gIsN_lst, gIsN_tup, gIx_t2, Bool.not_not, dnE, dnL, decide_true, decide_false, gListL_lst, gTupL_lst, gListU_lst, gListU_tup, iOf_int, graphD, edD, optD, pvD, lvD, lvI, trD, Bool.xor_false, Bool.not_false, Bool.not_true]
          have e0 : lstep r acc (u, v, c) = ins acc v (b + c) := by unfold lstep; rw [g]; show (if betterI acc v (b + c) = true then _ else _) = _; rw [if_pos (by unfold betterI; rw [g2])]
          rw [e0] at nxt
          refine ⟨ownDK_nT rfl trivial, _, rfl, ownDK_nT (f := D.int) rfl ⟨by rw [List.length_map, szL]; omega, ?_⟩⟩
          rw [putD_nat]
          exact nxt _ _
        · try simp only [ownLst, ownObj, mTake, mOf, fAndV, fOrV, fArgs, fCons, fNil, fVar_0, fVar_s, fUn, fBin, fBool, startE, envOf, slot, gSeq, frzE, gComp, gCompD, wipe_nil, wipe_cons, List.map_cons, List.map_nil, List.cons_append, List.nil_append, List.append_nil, true_and, and_true, List.set_cons_zero, List.set_cons_succ, List.length_cons, List.length_nil, List.replicate_succ, List.replicate_zero, Nat.reduceSub, Nat.reduceAdd, Nat.reduceLT, DEnds.fn, bOf_bl, eq_self, reduceIte, Bool.false_eq_true, gNotV_bl, Bool.not_true, Bool.not_false, g2I_int, g2I0_int, g1I_int, gLen_lst, gLen_tup, gInt_int, gMax2_int, gMin2_int, gIsN_non, gIsN_obj, gIsN_dT, gIsN_dK, gIsN_int, xsOf_lst, tsOf_tup, gIx_t0, gIx_t1, gIx_l0, gIx_l1, gIx_l2, gEqA_int, gEqA_str, gEqA_bl, gTup, gLst, Option.isSome_some, Bool.false_xor, Bool.true_xor, gFor, gNegI, gEqA_no, gIsN_lst, gIsN_tup, gIx_t2, Bool.not_not, dnE, dnL, decide_true, decide_false, gListL_lst, gTupL_lst, gListU_lst, gListU_tup, iOf_int, graphD, edD, optD, pvD, lvD, lvI, trD, Bool.xor_false, Bool.not_false, Bool.not_true]
          refine dget_go g2 ?_
          try simp only [ownLst, ownObj, mTake, mOf, fAndV, fOrV, fArgs, fCons, fNil, fVar_0, fVar_s, fUn, fBin, fBool, startE, envOf, slot, gSeq, frzE, gComp, gCompD, wipe_nil, wipe_cons, List.map_cons, List.map_nil, List.cons_append, List.nil_append, List.append_nil, true_and, and_true, List.set_cons_zero, List.set_cons_succ, List.length_cons, List.length_nil, List.replicate_succ, List.replicate_zero, Nat.reduceSub, Nat.reduceAdd, Nat.reduceLT, DEnds.fn, bOf_bl, eq_self, reduceIte, Bool.false_eq_true, gNotV_bl, Bool.not_true, Bool.not_false, g2I_int, g2I0_int, g1I_int, gLen_lst, gLen_tup, gInt_int, gMax2_int, gMin2_int, gIsN_non, gIsN_obj, gIsN_dT, gIsN_dK, gIsN_int, xsOf_lst, tsOf_tup, gIx_t0, gIx_t1, gIx_l0, gIx_l1, gIx_l2, gEqA_int, gEqA_str, gEqA_bl, gTup, gLst, Option.isSome_some, Bool.false_xor, Bool.true_xor, gFor, gNegI, gEqA_no, gIsN_lst, gIsN_tup, gIx_t2, Bool.not_not, dnE, dnL, decide_true, decide_false, gListL_lst, gTupL_lst, gListU_lst, gListU_tup, iOf_int, graphD, edD, optD, pvD, lvD, lvI, trD, Bool.xor_false, Bool.not_false, Bool.not_true]
          by_cases h : b + c < t
          · rw [decide_eq_true h]
            try simp only [ownLst, ownObj, mTake, mOf, fAndV, fOrV, fArgs, fCons, fNil, fVar_0, fVar_s, fUn, fBin, fBool, startE, envOf, slot, gSeq, frzE, gComp, gCompD, wipe_nil, wipe_cons, List.map_cons, List.map_nil, List.cons_append, List.nil_append, List.append_nil, true_and, and_true, List.set_cons_zero, List.set_cons_succ, List.length_cons, List.length_nil, List.replicate_succ, List.replicate_zero, Nat.reduceSub, Nat.reduceAdd, Nat.reduceLT, DEnds.fn, bOf_bl, eq_self, reduceIte, Bool.false_eq_true, gNotV_bl, Bool.not_true, Bool.not_false, g2I_int, g2I0_int, g1I_int, gLen_lst, gLen_tup, gInt_int, gMax2_int, gMin2_int, gIsN_non, gIsN_obj, gIsN_dT, gIsN_dK, gIsN_int, xsOf_lst, tsOf_tup, gIx_t0, gIx_t1, gIx_l0, gIx_l1, gIx_l2, gEqA_int, gEqA_str, gEqA_bl, gTup, gLst, Option.isSome_some, Bool.false_xor, Bool.true_xor, gFor, gNegI, gEqA_no, gIsN_lst, gIsN_tup, gIx_t2, Bool.not_not, dnE, dnL, decide_true, decide_false, gListL_lst, gTupL_lst, gListU_lst, gListU_tup, iOf_int, graphD, edD, optD, pvD, lvD, lvI, trD, Bool.xor_false, Bool.not_false, Bool.not_true]
            have e0 : lstep r acc (u, v, c) = ins acc v (b + c) := by unfold lstep; rw [g]; show (if betterI acc v (b + c) = true then _ else _) = _; rw [if_pos (by unfold betterI; rw [g2]; exact decide_eq_true h)]
            rw [e0] at nxt
            refine ⟨ownDK_nT rfl trivial, _, rfl, ownDK_nT (f := D.int) rfl ⟨by rw [List.length_map, szL]; omega, ?_⟩⟩
            rw [putD_nat]
            exact nxt _ _
          · rw [decide_eq_false h]
            try simp only [ownLst, ownObj, mTake, mOf, fAndV, fOrV, fArgs, fCons, fNil, fVar_0, fVar_s, fUn, fBin, fBool, startE, envOf, slot, gSeq, frzE, gComp, gCompD, wipe_nil, wipe_cons, List.map_cons, List.map_nil, List.cons_append, List.nil_append, List.append_nil, true_and, and_true, List.set_cons_zero, List.set_cons_succ, List.length_cons, List.length_nil, List.replicate_succ, List.replicate_zero, Nat.reduceSub, Nat.reduceAdd, Nat.reduceLT, DEnds.fn, bOf_bl, eq_self, reduceIte, Bool.false_eq_true, gNotV_bl, Bool.not_true, Bool.not_false, g2I_int, g2I0_int, g1I_int, gLen_lst, gLen_tup, gInt_int, gMax2_int, gMin2_int, gIsN_non, gIsN_obj, gIsN_dT, gIsN_dK, gIsN_int, xsOf_lst, tsOf_tup, gIx_t0, gIx_t1, gIx_l0, gIx_l1, gIx_l2, gEqA_int, gEqA_str, gEqA_bl, gTup, gLst, Option.isSome_some, Bool.false_xor, Bool.true_xor, gFor, gNegI, gEqA_no, gIsN_lst, gIsN_tup, gIx_t2, Bool.not_not, dnE, dnL, decide_true, decide_false, gListL_lst, gTupL_lst, gListU_lst, gListU_tup, iOf_int, graphD, edD, optD, pvD, lvD, lvI, trD, Bool.xor_false, Bool.not_false, Bool.not_true]
            have e0 : lstep r acc (u, v, c) = acc := by unfold lstep; rw [g]; show (if betterI acc v (b + c) = true then _ else _) = _; rw [if_neg (by unfold betterI; rw [g2]; exact fun z => h (of_decide_eq_true z))]
            rw [e0] at nxt
            exact nxt _ _
  · rintro ρ ⟨e1, acc, v3, v4, ex, hl, hf, nd, rfl⟩
    cases e1 with
    | cons e e1 => cases ex
    | nil =>
      have hf : acc = lrow es r := hf
      try simp only [ownLst, ownObj, mTake, mOf, fAndV, fOrV, fArgs, fCons, fNil, fVar_0, fVar_s, fUn, fBin, fBool, startE, envOf, slot, gSeq, frzE, gComp, gCompD, wipe_nil, wipe_cons, List.map_cons, List.map_nil, List.cons_append, List.nil_append, List.append_nil, true_and, and_true, List.set_cons_zero, List.set_cons_succ, List.length_cons, List.length_nil, List.replicate_succ, List.replicate_zero, Nat.reduceSub, Nat.reduceAdd, Nat.reduceLT, DEnds.fn, bOf_bl, eq_self, reduceIte, Bool.false_eq_true, gNotV_bl, Bool.not_true, Bool.not_false, g2I_int, g2I0_int, g1I_int, gLen_lst, gLen_tup, gInt_int, gMax2_int, gMin2_int, gIsN_non, gIsN_obj, gIsN_dT, gIsN_dK, gIsN_int, xsOf_lst, tsOf_tup, gIx_t0, gIx_t1, gIx_l0, gIx_l1, gIx_l2, gEqA_int, gEqA_str, gEqA_bl, gTup, gLst, Option.isSome_some, Bool.false_xor, Bool.true_xor, gFor, gNegI, gEqA_no, gIsN_lst, gIsN_tup, gIx_t2, Bool.not_not, dnE, dnL, decide_true, decide_false, gListL_lst, gTupL_lst, gListU_lst, gListU_tup, iOf_int, graphD, edD, optD, pvD, lvD, lvI, trD, Bool.xor_false, Bool.not_false, Bool.not_true]
      rw [hf]
      exact hR
abbrev s_law_fewest : Stmt := topS 18
theorem sc_law_fewest : FnScope ["count", "edges", "starts", "rows", "start", "size"] ["count", "edges", "starts"] (defScope s_law_fewest) := ⟨rfl, rfl, rfl, by decide +kernel, rfl, by decide +kernel, by decide +kernel⟩
theorem ok_law_fewest {f : Addr} {fd : FuncData} (F : Fun K "_law_fewest" "_law_fewest" s_law_fewest f fd) (T : Bi mg) (c_law_row : Cal P w K mg base "_law_row" 1 ["edges", "row"] (.own 0) [] w_law_row) : FnOk P w K mg base CX0 2 f fd ["count", "edges", "starts"] (spD K (.own 0) w_law_fewest) := by
  refine Fun_okD F sc_law_fewest (fun _ _ _ h => by obtain ⟨_, _, _, e, _, _⟩ := h; rw [e]; rfl) fun B cdv A outer s H E hr => ⟨_, (ds_cons (ds_setM 3 1 sc_law_fewest.nd rfl (by first | exact Or.inl rfl | exact Or.inr rfl) (by decide) (dm_of (de_dnewK 0)))
(ds_cons (ds_for PassesOwn.never rfl (di_list (de_v 2)) (dg_name 4 sc_law_fewest.nd rfl (by first | exact Or.inl rfl | exact Or.inr rfl) (by decide))
(ds_one (ds_putK 3 (hr.u 1) (dm_of (de_frz (de_disp1 (de_v 4) (de_int (m := .own 0))))) (de_v 4))))
(ds_cons (ds_for PassesOwn.never rfl (di_range2 T.range_ (de_int (m := .rd)) (de_add (m := .rd) (de_v 0) (de_int (m := .rd)))) (dg_name 5 sc_law_fewest.nd rfl (by first | exact Or.inl rfl | exact Or.inr rfl) (by decide))
(ds_one (ds_for PassesOwn.never rfl (di_list (de_v 2)) (dg_name 4 sc_law_fewest.nd rfl (by first | exact Or.inl rfl | exact Or.inr rfl) (by decide))
(ds_cons (ds_putK 3 (hr.u 1) (dm_of (de_C c_law_row hr (da_cons (m := .own 0) (de_v 1) (da_cons (m := .own 0) (de_bor0 (de_dget (hr.u 1) (de_var 3 1) (de_v 4))) da_nil)))) (de_v 4))
(ds_one (ds_if (dt_lt (de_dget2 (hr.u 1) (de_dget (hr.u 1) (de_var 3 1) (de_v 4)) (de_rd (de_v 4)) (de_int (m := .bor 0))) (de_int (m := .rd)))
(ds_one (ds_retM (dm_of (de_v 5))))
ds_nil))))))
(ds_one (ds_retM (dm_of (de_int (m := .own 0)))))))), fun ds R ⟨n, es, st, e, ok, hR⟩ => ?_⟩
  subst e
  have n1 := ok.g.n0
  have sl : st.length ≤ n := nodup_lt n st ok.nd ok.sn
  try simp only [ownLst, ownObj, mTake, mOf, fAndV, fOrV, fArgs, fCons, fNil, fVar_0, fVar_s, fUn, fBin, fBool, startE, envOf, slot, gSeq, frzE, gComp, gCompD, wipe_nil, wipe_cons, List.map_cons, List.map_nil, List.cons_append, List.nil_append, List.append_nil, true_and, and_true, List.set_cons_zero, List.set_cons_succ, List.length_cons, List.length_nil, List.replicate_succ, List.replicate_zero, Nat.reduceSub, Nat.reduceAdd, Nat.reduceLT, DEnds.fn, bOf_bl, eq_self, reduceIte, Bool.false_eq_true, gNotV_bl, Bool.not_true, Bool.not_false, g2I_int, g2I0_int, g1I_int, gLen_lst, gLen_tup, gInt_int, gMax2_int, gMin2_int, gIsN_non, gIsN_obj, gIsN_dT, gIsN_dK, gIsN_int, xsOf_lst, tsOf_tup, gIx_t0, gIx_t1, gIx_l0, gIx_l1, gIx_l2, gEqA_int, gEqA_str, gEqA_bl, gTup, gLst, Option.isSome_some, Bool.false_xor, Bool.true_xor, gFor, gNegI, gEqA_no, gIsN_lst, gIsN_tup, gIx_t2, Bool.not_not, dnE, dnL, decide_true, decide_false, gListL_lst, gTupL_lst, gListU_lst, gListU_tup, iOf_int, graphD, edD, optD, pvD, lvD, lvI, trD, Bool.xor_false, Bool.not_false, Bool.not_true]
  refine forD_go (fun xs ρ => ∃ (dn rs : List Nat) (Rw : List (Nat × List (Nat × Int))) (v4 v5 : Option (Nat × D)), st = dn ++ rs ∧ xs = rs.map natD ∧ (∀ s ∈ dn, gt Rw s = some (lr es s 0)) ∧ Rw.length ≤ dn.length ∧ ρ = [some (0, natD n), some (0, .lst (edsD es)), some (0, .lst (st.map natD)), some (1, nT rowD Rw), v4, v5]) ?_ ?_ _ _ ⟨[], st, [], none, none, rfl, rfl, fun s h => (by cases h), Nat.le_refl _, rfl⟩
  · rintro x r ρ ⟨dn, rs, Rw, v4, v5, hst, ex, hd1, hl, rfl⟩ N hN
    cases rs with
    | nil => cases ex
    | cons s rs =>
      rw [List.map_cons] at ex
      injection ex with ex1 ex2
      subst ex1
      refine ⟨_, rfl, ?_⟩
      try simp only [ownLst, ownObj, mTake, mOf, fAndV, fOrV, fArgs, fCons, fNil, fVar_0, fVar_s, fUn, fBin, fBool, startE, envOf, slot, gSeq, frzE, gComp, gCompD, wipe_nil, wipe_cons, List.map_cons, List.map_nil, List.cons_append, List.nil_append, List.append_nil, true_and, and_true, List.set_cons_zero, List.set_cons_succ, List.length_cons, List.length_nil, List.replicate_succ, List.replicate_zero, Nat.reduceSub, Nat.reduceAdd, Nat.reduceLT, DEnds.fn, bOf_bl, eq_self, reduceIte, Bool.false_eq_true, gNotV_bl, Bool.not_true, Bool.not_false, g2I_int, g2I0_int, g1I_int, gLen_lst, gLen_tup, gInt_int, gMax2_int, gMin2_int, gIsN_non, gIsN_obj, gIsN_dT, gIsN_dK, gIsN_int, xsOf_lst, tsOf_tup, gIx_t0, gIx_t1, gIx_l0, gIx_l1, gIx_l2, gEqA_int, gEqA_str, gEqA_bl, gTup, gLst, Option.isSome_some, Bool.false_xor, Bool.true_xor, gFor, gNegI, gEqA_no, gIsN_lst, gIsN_tup, gIx_t2, Bool.not_not, dnE, dnL, decide_true, decide_false, gListL_lst, gTupL_lst, gListU_lst, gListU_tup, iOf_int, graphD, edD, optD, pvD, lvD, lvI, trD, Bool.xor_false, Bool.not_false, Bool.not_true]
      refine ⟨_, rfl, ownDK_nT rfl trivial, _, rfl, ownDK_nT (f := rowD) rfl ⟨?_, ?_⟩⟩
      · rw [List.length_map, szL]
        have := congrArg List.length hst
        rw [List.length_append, List.length_cons] at this
        omega
      refine hN _ ⟨dn ++ [s], rs, ins Rw s (lr es s 0), _, _, by rw [hst, List.append_assoc]; rfl, ex2, fun z hz => ?_, ?_, by rw [show nT rowD (ins Rw s (lr es s 0)) = _ from nT_ins]; rfl⟩
      · rw [gt_ins]
        by_cases q : z = s
        · rw [if_pos q, q]
        · rw [if_neg q]
          exact hd1 z ((List.mem_append.mp hz).elim id fun y => absurd (List.mem_singleton.mp y) q)
      · have := ins_len (l := Rw) (k := s) (v := lr es s 0)
        rw [List.length_append, List.length_singleton]; omega
  · rintro ρ ⟨dn, rs, Rw, v4, v5, hst, ex, hd1, hl, rfl⟩
    cases rs with
    | cons s rs => cases ex
    | nil =>
      rw [List.append_nil] at hst
      subst hst
      try simp only [ownLst, ownObj, mTake, mOf, fAndV, fOrV, fArgs, fCons, fNil, fVar_0, fVar_s, fUn, fBin, fBool, startE, envOf, slot, gSeq, frzE, gComp, gCompD, wipe_nil, wipe_cons, List.map_cons, List.map_nil, List.cons_append, List.nil_append, List.append_nil, true_and, and_true, List.set_cons_zero, List.set_cons_succ, List.length_cons, List.length_nil, List.replicate_succ, List.replicate_zero, Nat.reduceSub, Nat.reduceAdd, Nat.reduceLT, DEnds.fn, bOf_bl, eq_self, reduceIte, Bool.false_eq_true, gNotV_bl, Bool.not_true, Bool.not_false, g2I_int, g2I0_int, g1I_int, gLen_lst, gLen_tup, gInt_int, gMax2_int, gMin2_int, gIsN_non, gIsN_obj, gIsN_dT, gIsN_dK, gIsN_int, xsOf_lst, tsOf_tup, gIx_t0, gIx_t1, gIx_l0, gIx_l1, gIx_l2, gEqA_int, gEqA_str, gEqA_bl, gTup, gLst, Option.isSome_some, Bool.false_xor, Bool.true_xor, gFor, gNegI, gEqA_no, gIsN_lst, gIsN_tup, gIx_t2, Bool.not_not, dnE, dnL, decide_true, decide_false, gListL_lst, gTupL_lst, gListU_lst, gListU_tup, iOf_int, graphD, edD, optD, pvD, lvD, lvI, trD, Bool.xor_false, Bool.not_false, Bool.not_true]
      refine rng2_go (a := 1) (b := n + 1) (by omega) (by omega) ?_
      rw [Nat.add_sub_cancel]
      refine forD_go (fun xs ρ => ∃ (k m : Nat) (Rw : List (Nat × List (Nat × Int))) (v4 v5 : Option (Nat × D)), k + m = n ∧ xs = (List.range' (k + 1) m).map natD ∧ (∀ s ∈ st, gt Rw s = some (lr es s k)) ∧ Rw.length ≤ 200 ∧ (∀ j, 1 ≤ j → j ≤ k → ∀ s ∈ st, ∀ t, gt (lr es s j) s = some t → 0 ≤ t) ∧
        ρ = [some (0, natD n), some (0, .lst (edsD es)), some (0, .lst (st.map natD)), some (1, nT rowD Rw), v4, v5]) ?_ ?_ _ _ ⟨0, n, Rw, _, _, by omega, rfl, hd1, by omega, fun j a b => by omega, rfl⟩
      · rintro x r ρ ⟨k, m, Rw, v4, v5, hk, ey, hg, hl, hp, rfl⟩ N hN
        cases m with
        | zero => cases ey
        | succ m =>
          rw [List.range'_succ, List.map_cons] at ey
          injection ey with ey1 ey2
          subst ey1
          refine ⟨_, rfl, ?_⟩
          try simp only [ownLst, ownObj, mTake, mOf, fAndV, fOrV, fArgs, fCons, fNil, fVar_0, fVar_s, fUn, fBin, fBool, startE, envOf, slot, gSeq, frzE, gComp, gCompD, wipe_nil, wipe_cons, List.map_cons, List.map_nil, List.cons_append, List.nil_append, List.append_nil, true_and, and_true, List.set_cons_zero, List.set_cons_succ, List.length_cons, List.length_nil, List.replicate_succ, List.replicate_zero, Nat.reduceSub, Nat.reduceAdd, Nat.reduceLT, DEnds.fn, bOf_bl, eq_self, reduceIte, Bool.false_eq_true, gNotV_bl, Bool.not_true, Bool.not_false, g2I_int, g2I0_int, g1I_int, gLen_lst, gLen_tup, gInt_int, gMax2_int, gMin2_int, gIsN_non, gIsN_obj, gIsN_dT, gIsN_dK, gIsN_int, xsOf_lst, tsOf_tup, gIx_t0, gIx_t1, gIx_l0, gIx_l1, gIx_l2, gEqA_int, gEqA_str, gEqA_bl, gTup, gLst, Option.isSome_some, Bool.false_xor, Bool.true_xor, gFor, gNegI, gEqA_no, gIsN_lst, gIsN_tup, gIx_t2, Bool.not_not, dnE, dnL, decide_true, decide_false, gListL_lst, gTupL_lst, gListU_lst, gListU_tup, iOf_int, graphD, edD, optD, pvD, lvD, lvI, trD, Bool.xor_false, Bool.not_false, Bool.not_true]
          refine forD_go (fun xs ρ => ∃ (dn rs : List Nat) (Rw : List (Nat × List (Nat × Int))) (v4 : Option (Nat × D)), st = dn ++ rs ∧ xs = rs.map natD ∧ (∀ s ∈ dn, gt Rw s = some (lr es s (k + 1))) ∧ (∀ s ∈ rs, gt Rw s = some (lr es s k)) ∧ (∀ s ∈ dn, ∀ t, gt (lr es s (k + 1)) s = some t → 0 ≤ t) ∧ Rw.length ≤ 200 ∧
            ρ = [some (0, natD n), some (0, .lst (edsD es)), some (0, .lst (st.map natD)), some (1, nT rowD Rw), v4, some (0, natD (k + 1))]) ?_ ?_ _ _ ⟨[], st, Rw, _, rfl, rfl, fun s h => (by cases h), hg, fun s h => (by cases h), hl, rfl⟩
          · rintro x r ρ ⟨dn, rs, Rw, v4, hst, ez, g1, g2, g3, hl, rfl⟩ N2 hN2
            cases rs with
            | nil => cases ez
            | cons s rs =>
              rw [List.map_cons] at ez
              injection ez with ez1 ez2
              subst ez1
              have hs := g2 s List.mem_cons_self
              have sst : s ∈ st := by rw [hst]; simp
              have nds : s ∉ dn ∧ s ∉ rs := by
                have := ok.nd
                rw [hst, List.nodup_append, List.nodup_cons] at this
                exact ⟨fun z => this.2.2 s z s List.mem_cons_self rfl, this.2.1.1⟩
              refine ⟨_, rfl, ?_⟩
              try simp only [ownLst, ownObj, mTake, mOf, fAndV, fOrV, fArgs, fCons, fNil, fVar_0, fVar_s, fUn, fBin, fBool, startE, envOf, slot, gSeq, frzE, gComp, gCompD, wipe_nil, wipe_cons, List.map_cons, List.map_nil, List.cons_append, List.nil_append, List.append_nil, true_and, and_true, List.set_cons_zero, List.set_cons_succ, List.length_cons, List.length_nil, List.replicate_succ, List.replicate_zero, Nat.reduceSub, Nat.reduceAdd, Nat.reduceLT, DEnds.fn, bOf_bl, eq_self, reduceIte, Bool.false_eq_true, gNotV_bl, Bool.not_true, Bool.not_false, g2I_int, g2I0_int, g1I_int, gLen_lst, gLen_tup, gInt_int, gMax2_int, gMin2_int, gIsN_non, gIsN_obj, gIsN_dT, gIsN_dK, gIsN_int, xsOf_lst, tsOf_tup, gIx_t0, gIx_t1, gIx_l0, gIx_l1, gIx_l2, gEqA_int, gEqA_str, gEqA_bl, gTup, gLst, Option.isSome_some, Bool.false_xor, Bool.true_xor, gFor, gNegI, gEqA_no, gIsN_lst, gIsN_tup, gIx_t2, Bool.not_not, dnE, dnL, decide_true, decide_false, gListL_lst, gTupL_lst, gListU_lst, gListU_tup, iOf_int, graphD, edD, optD, pvD, lvD, lvI, trD, Bool.xor_false, Bool.not_false, Bool.not_true]
              refine dget_go hs ?_
              refine ⟨es, lr es s k, n, rfl, ok.g, ?_⟩
              try simp only [ownLst, ownObj, mTake, mOf, fAndV, fOrV, fArgs, fCons, fNil, fVar_0, fVar_s, fUn, fBin, fBool, startE, envOf, slot, gSeq, frzE, gComp, gCompD, wipe_nil, wipe_cons, List.map_cons, List.map_nil, List.cons_append, List.nil_append, List.append_nil, true_and, and_true, List.set_cons_zero, List.set_cons_succ, List.length_cons, List.length_nil, List.replicate_succ, List.replicate_zero, Nat.reduceSub, Nat.reduceAdd, Nat.reduceLT, DEnds.fn, bOf_bl, eq_self, reduceIte, Bool.false_eq_true, gNotV_bl, Bool.not_true, Bool.not_false, g2I_int, g2I0_int, g1I_int, gLen_lst, gLen_tup, gInt_int, gMax2_int, gMin2_int, gIsN_non, gIsN_obj, gIsN_dT, gIsN_dK, gIsN_int, xsOf_lst, tsOf_tup, gIx_t0, gIx_t1, gIx_l0, gIx_l1, gIx_l2, gEqA_int, gEqA_str, gEqA_bl, gTup, gLst, Option.isSome_some, Bool.false_xor, Bool.true_xor, gFor, gNegI, gEqA_no, gIsN_lst, gIsN_tup, gIx_t2, Bool.not_not, dnE, dnL, decide_true, decide_false, gListL_lst, gTupL_lst, gListU_lst, gListU_tup, iOf_int, graphD, edD, optD, pvD, lvD, lvI, trD, Bool.xor_false, Bool.not_false, Bool.not_true]
              refine ⟨ownDK_nT rfl trivial, _, rfl, ownDK_nT (f := rowD) rfl ⟨by rw [List.length_map, szL]; omega, ?_⟩⟩
              rw [show D.dK (putD (Rw.map (kvN rowD)) (Sum.inl (s : Int) : Key) (rowD (lrow es (lr es s k)))) = nT rowD (ins Rw s (lr es s (k + 1))) from nT_ins.symm]
              try simp only [ownLst, ownObj, mTake, mOf, fAndV, fOrV, fArgs, fCons, fNil, fVar_0, fVar_s, fUn, fBin, fBool, startE, envOf, slot, gSeq, frzE, gComp, gCompD, wipe_nil, wipe_cons, List.map_cons, List.map_nil, List.cons_append, List.nil_append, List.append_nil, true_and, and_true, List.set_cons_zero, List.set_cons_succ, List.length_cons, List.length_nil, List.replicate_succ, List.replicate_zero, Nat.reduceSub, Nat.reduceAdd, Nat.reduceLT, DEnds.fn, bOf_bl, eq_self, reduceIte, Bool.false_eq_true, gNotV_bl, Bool.not_true, Bool.not_false, g2I_int, g2I0_int, g1I_int, gLen_lst, gLen_tup, gInt_int, gMax2_int, gMin2_int, gIsN_non, gIsN_obj, gIsN_dT, gIsN_dK, gIsN_int, xsOf_lst, tsOf_tup, gIx_t0, gIx_t1, gIx_l0, gIx_l1, gIx_l2, gEqA_int, gEqA_str, gEqA_bl, gTup, gLst, Option.isSome_some, Bool.false_xor, Bool.true_xor, gFor, gNegI, gEqA_no, gIsN_lst, gIsN_tup, gIx_t2, Bool.not_not, dnE, dnL, decide_true, decide_false, gListL_lst, gTupL_lst, gListU_lst, gListU_tup, iOf_int, graphD, edD, optD, pvD, lvD, lvI, trD, Bool.xor_false, Bool.not_false, Bool.not_true]
              have hl2 : (ins Rw s (lr es s (k + 1))).length ≤ 200 := by
                have : s ∈ Rw.map (·.1) := Decidable.byContradiction fun z => by rw [gt_none.mpr z] at hs; cases hs
                have e := congrArg List.length (ins_keys_old (v := lr es s (k + 1)) this)
                rw [List.length_map, List.length_map] at e
                omega
              have gi : ∀ z, gt (ins Rw s (lr es s (k + 1))) z = if z = s then some (lr es s (k + 1)) else gt Rw z := fun z => gt_ins
              refine dget_go (by rw [gi, if_pos rfl]) ?_
              refine ⟨trivial, dget2_go ?_⟩
              have nxt : (∀ t, gt (lr es s (k + 1)) s = some t → 0 ≤ t) → N2 [some (0, natD n), some (0, .lst (edsD es)), some (0, .lst (st.map natD)), some (1, nT rowD (ins Rw s (lr es s (k + 1)))), some (0, natD s), some (0, natD (k + 1))] := fun h0 => by
                refine hN2 _ ⟨dn ++ [s], rs, _, _, by rw [hst, List.append_assoc]; rfl, ez2, fun z hz => ?_, fun z hz => ?_, fun z hz => ?_, hl2, rfl⟩
                · rw [gi]
                  by_cases q : z = s
                  · rw [if_pos q, q]
                  · rw [if_neg q]
                    exact g1 z ((List.mem_append.mp hz).elim id fun y => absurd (List.mem_singleton.mp y) q)
                · rw [gi, if_neg (show ¬ z = s from fun q => nds.2 (q ▸ hz))]
                  exact g2 z (List.mem_cons_of_mem _ hz)
                · rcases List.mem_append.mp hz with y | y
                  · exact g3 z y
                  · rw [List.mem_singleton.mp y]; exact h0
              rcases g : gt (lr es s (k + 1)) s with _ | t
              · simp only [Option.map_none, Option.getD_none]
                try simp only [ownLst, ownObj, mTake, mOf, fAndV, fOrV, fArgs, fCons, fNil, fVar_0, fVar_s, fUn, fBin, fBool, startE, envOf, slot, gSeq, frzE, gComp, gCompD, wipe_nil, wipe_cons, List.map_cons, List.map_nil, List.cons_append, List.nil_append, List.append_nil, true_and, and_true, List.set_cons_zero, List.set_cons_succ, List.length_cons, List.length_nil, List.replicate_succ, List.replicate_zero, Nat.reduceSub, Nat.reduceAdd, Nat.reduceLT, DEnds.fn, bOf_bl, eq_self, reduceIte, Bool.false_eq_true, gNotV_bl, Bool.not_true, Bool.not_false, g2I_int, g2I0_int, g1I_int, gLen_lst, gLen_tup, gInt_int, gMax2_int, gMin2_int, gIsN_non, gIsN_obj, gIsN_dT, gIsN_dK, gIsN_int, xsOf_lst, tsOf_tup, gIx_t0, gIx_t1, gIx_l0, gIx_l1, gIx_l2, gEqA_int, gEqA_str, gEqA_bl, gTup, gLst, Option.isSome_some, Bool.false_xor, Bool.true_xor, gFor, gNegI, gEqA_no, gIsN_lst, gIsN_tup, gIx_t2, Bool.not_not, dnE, dnL, decide_true, decide_false, gListL_lst, gTupL_lst, gListU_lst, gListU_tup, iOf_int, graphD, edD, optD, pvD, lvD, lvI, trD, Bool.xor_false, Bool.not_false, Bool.not_true]
                rw [decide_eq_false (by decide)]
                try simp only [ownLst, ownObj, mTake, mOf, fAndV, fOrV, fArgs, fCons, fNil, fVar_0, fVar_s, fUn, fBin, fBool, startE, envOf, slot, gSeq, frzE, gComp, gCompD, wipe_nil, wipe_cons, List.map_cons, List.map_nil, List.cons_append, List.nil_append, List.append_nil, true_and, and_true, List.set_cons_zero, List.set_cons_succ, List.length_cons, List.length_nil, List.replicate_succ, List.replicate_zero, Nat.reduceSub, Nat.reduceAdd, Nat.reduceLT, DEnds.fn, bOf_bl, eq_self, reduceIte, Bool.false_eq_true, gNotV_bl, Bool.not_true, Bool.not_false, g2I_int, g2I0_int, g1I_int, gLen_lst, gLen_tup, gInt_int, gMax2_int, gMin2_int, gIsN_non, gIsN_obj, gIsN_dT, gIsN_dK, gIsN_int, xsOf_lst, tsOf_tup, gIx_t0, gIx_t1, gIx_l0, gIx_l1, gIx_l2, gEqA_int, gEqA_str, gEqA_bl, gTup, gLst, Option.isSome_some, Bool.false_xor, Bool.true_xor, gFor, gNegI, gEqA_no, gIsN_lst, gIsN_tup, gIx_t2, Bool.not_not, dnE, dnL, decide_true, decide_false, gListL_lst, gTupL_lst, gListU_lst, gListU_tup, iOf_int, graphD, edD, optD, pvD, lvD, lvI, trD, Bool.xor_false, Bool.not_false, Bool.not_true]
                exact nxt fun t z => by rw [g] at z; cases z
              · simp only [Option.map_some, Option.getD_some]
                try simp only [ownLst, ownObj, mTake, mOf, fAndV, fOrV, fArgs, fCons, fNil, fVar_0, fVar_s, fUn, fBin, fBool, startE, envOf, slot, gSeq, frzE, gComp, gCompD, wipe_nil, wipe_cons, List.map_cons, List.map_nil, List.cons_append, List.nil_append, List.append_nil, true_and, and_true, List.set_cons_zero, List.set_cons_succ, List.length_cons, List.length_nil, List.replicate_succ, List.replicate_zero, Nat.reduceSub, Nat.reduceAdd, Nat.reduceLT, DEnds.fn, bOf_bl, eq_self, reduceIte, Bool.false_eq_true, gNotV_bl, Bool.not_true, Bool.not_false, g2I_int, g2I0_int, g1I_int, gLen_lst, gLen_tup, gInt_int, gMax2_int, gMin2_int, gIsN_non, gIsN_obj, gIsN_dT, gIsN_dK, gIsN_int, xsOf_lst, tsOf_tup, gIx_t0, gIx_t1, gIx_l0, gIx_l1, gIx_l2, gEqA_int, gEqA_str, gEqA_bl, gTup, gLst, Option.isSome_some, Bool.false_xor, Bool.true_xor, gFor, gNegI, gEqA_no, gIsN_lst, gIsN_tup, gIx_t2, Bool.not_not, dnE, dnL, decide_true, decide_false, gListL_lst, gTupL_lst, gListU_lst, gListU_tup, iOf_int, graphD, edD, optD, pvD, lvD, lvI, trD, Bool.xor_false, Bool.not_false, Bool.not_true]
                by_cases h : t < 0
                · rw [decide_eq_true h]
                  try simp only [ownLst, ownObj, mTake, mOf, fAndV, fOrV, fArgs, fCons, fNil, fVar_0, fVar_s, fUn, fBin, fBool, startE, envOf, slot, gSeq, frzE, gComp, gCompD, wipe_nil, wipe_cons, List.map_cons, List.map_nil, List.cons_append, List.nil_append, List.append_nil, true_and, and_true, List.set_cons_zero, List.set_cons_succ, List.length_cons, List.length_nil, List.replicate_succ, List.replicate_zero, Nat.reduceSub, Nat.reduceAdd, Nat.reduceLT, DEnds.fn, bOf_bl, eq_self, reduceIte, Bool.false_eq_true, gNotV_bl, Bool.not_true, Bool.not_false, g2I_int, g2I0_int, g1I_int, gLen_lst, gLen_tup, gInt_int, gMax2_int, gMin2_int, gIsN_non, gIsN_obj, gIsN_dT, gIsN_dK, gIsN_int, xsOf_lst, tsOf_tup, gIx_t0, gIx_t1, gIx_l0, gIx_l1, gIx_l2, gEqA_int, gEqA_str, gEqA_bl, gTup, gLst, Option.isSome_some, Bool.false_xor, Bool.true_xor, gFor, gNegI, gEqA_no, gIsN_lst, gIsN_tup, gIx_t2, Bool.not_not, dnE, dnL, decide_true, decide_false, gListL_lst, gTupL_lst, gListU_lst, gListU_tup, iOf_int, graphD, edD, optD, pvD, lvD, lvI, trD, Bool.xor_false, Bool.not_false, Bool.not_true]
                  exact hR (k + 1) (few_found ok.g.wf ok.hit (Nat.succ_pos k) g h fun j j1 j2 => hp j j1 (by omega))
                · rw [decide_eq_false h]
                  try simp only [ownLst, ownObj, mTake, mOf, fAndV, fOrV, fArgs, fCons, fNil, fVar_0, fVar_s, fUn, fBin, fBool, startE, envOf, slot, gSeq, frzE, gComp, gCompD, wipe_nil, wipe_cons, List.map_cons, List.map_nil, List.cons_append, List.nil_append, List.append_nil, true_and, and_true, List.set_cons_zero, List.set_cons_succ, List.length_cons, List.length_nil, List.replicate_succ, List.replicate_zero, Nat.reduceSub, Nat.reduceAdd, Nat.reduceLT, DEnds.fn, bOf_bl, eq_self, reduceIte, Bool.false_eq_true, gNotV_bl, Bool.not_true, Bool.not_false, g2I_int, g2I0_int, g1I_int, gLen_lst, gLen_tup, gInt_int, gMax2_int, gMin2_int, gIsN_non, gIsN_obj, gIsN_dT, gIsN_dK, gIsN_int, xsOf_lst, tsOf_tup, gIx_t0, gIx_t1, gIx_l0, gIx_l1, gIx_l2, gEqA_int, gEqA_str, gEqA_bl, gTup, gLst, Option.isSome_some, Bool.false_xor, Bool.true_xor, gFor, gNegI, gEqA_no, gIsN_lst, gIsN_tup, gIx_t2, Bool.not_not, dnE, dnL, decide_true, decide_false, gListL_lst, gTupL_lst, gListU_lst, gListU_tup, iOf_int, graphD, edD, optD, pvD, lvD, lvI, trD, Bool.xor_false, Bool.not_false, Bool.not_true]
                  exact nxt fun t' z => by rw [g] at z; cases z; omega
          · rintro ρ ⟨dn, rs, Rw, v4, hst, ez, g1, g2, g3, hl, rfl⟩
            cases rs with
            | cons s rs => cases ez
            | nil =>
              rw [List.append_nil] at hst
              subst hst
              refine hN _ ⟨k + 1, m, Rw, _, _, by omega, ey2, g1, hl, fun j j1 j2 => ?_, rfl⟩
              by_cases q : j ≤ k
              · exact hp j j1 q
              · have q : j = k + 1 := by omega
                subst q
                exact g3
      · rintro ρ ⟨k, m, Rw, v4, v5, hk, ey, hg, hl, hp, rfl⟩
        cases m with
        | succ m => cases ey
        | zero =>
          try simp only [ownLst, ownObj, mTake, mOf, fAndV, fOrV, fArgs, fCons, fNil, fVar_0, fVar_s, fUn, fBin, fBool, startE, envOf, slot, gSeq, frzE, gComp, gCompD, wipe_nil, wipe_cons, List.map_cons, List.map_nil, List.cons_append, List.nil_append, List.append_nil, true_and, and_true, List.set_cons_zero, List.set_cons_succ, List.length_cons, List.length_nil, List.replicate_succ, List.replicate_zero, Nat.reduceSub, Nat.reduceAdd, Nat.reduceLT, DEnds.fn, bOf_bl, eq_self, reduceIte, Bool.false_eq_true, gNotV_bl, Bool.not_true, Bool.not_false, g2I_int, g2I0_int, g1I_int, gLen_lst, gLen_tup, gInt_int, gMax2_int, gMin2_int, gIsN_non, gIsN_obj, gIsN_dT, gIsN_dK, gIsN_int, xsOf_lst, tsOf_tup, gIx_t0, gIx_t1, gIx_l0, gIx_l1, gIx_l2, gEqA_int, gEqA_str, gEqA_bl, gTup, gLst, Option.isSome_some, Bool.false_xor, Bool.true_xor, gFor, gNegI, gEqA_no, gIsN_lst, gIsN_tup, gIx_t2, Bool.not_not, dnE, dnL, decide_true, decide_false, gListL_lst, gTupL_lst, gListU_lst, gListU_tup, iOf_int, graphD, edD, optD, pvD, lvD, lvI, trD, Bool.xor_false, Bool.not_false, Bool.not_true]
          exact hR 0 (few_none ok.g.wf ok.hit fun j j1 j2 => hp j j1 (by omega))
abbrev s_law_right : Stmt := topS 19
theorem sc_law_right : FnScope ["edges", "told", "fewest"] ["edges", "told", "fewest"] (defScope s_law_right) := ⟨rfl, rfl, rfl, by decide +kernel, rfl, by decide +kernel, by decide +kernel⟩
theorem ok_law_right {f : Addr} {fd : FuncData} (F : Fun K "_law_right" "_law_right" s_law_right f fd) (T : Bi mg) (c_law_integers : Cal P w K mg base "_law_integers" 1 ["value"] (.own 0) [] w_law_integers) (c_law_ring : Cal P w K mg base "_law_ring" 1 ["edges", "ring"] (.own 0) [] w_law_ring) : FnOk P w K mg base CX0 2 f fd ["edges", "told", "fewest"] (spD K (.own 0) w_law_right) := by
  refine Fun_okD F sc_law_right (fun _ _ _ h => by obtain ⟨_, _, _, _, e, _, _, _, _⟩ := h; rw [e]; rfl) fun B cdv A outer s H E hr => ⟨_, (ds_cons (ds_if (dt_eq (de_v 2) (de_int (m := .rd)))
(ds_one (ds_retM (dm_of (de_is (m := .own 0) (de_v 1) (de_non (m := .rd))))))
ds_nil)
(ds_one (ds_retM (dm_of (de_and (m := .own 0) (de_C c_law_integers hr (da_cons (m := .own 0) (de_v 1) da_nil)) (de_and (m := .own 0) (de_eq (m := .rd) (de_len (m := .rd) T.len_ (de_v 1)) (de_v 2)) (de_one (de_C c_law_ring hr (da_cons (m := .own 0) (de_v 0) (da_cons (m := .own 0) (de_v 1) da_nil)))))))))), fun ds R ⟨es, n, f, told, e, ok, hf, ht, hR⟩ => ?_⟩
  subst e
  have n1 := ok.n0
  try simp only [ownLst, ownObj, mTake, mOf, fAndV, fOrV, fArgs, fCons, fNil, fVar_0, fVar_s, fUn, fBin, fBool, startE, envOf, slot, gSeq, frzE, gComp, gCompD, wipe_nil, wipe_cons, List.map_cons, List.map_nil, List.cons_append, List.nil_append, List.append_nil, true_and, and_true, List.set_cons_zero, List.set_cons_succ, List.length_cons, List.length_nil, List.replicate_succ, List.replicate_zero, Nat.reduceSub, Nat.reduceAdd, Nat.reduceLT, DEnds.fn, bOf_bl, eq_self, reduceIte, Bool.false_eq_true, gNotV_bl, Bool.not_true, Bool.not_false, g2I_int, g2I0_int, g1I_int, gLen_lst, gLen_tup, gInt_int, gMax2_int, gMin2_int, gIsN_non, gIsN_obj, gIsN_dT, gIsN_dK, gIsN_int, xsOf_lst, tsOf_tup, gIx_t0, gIx_t1, gIx_l0, gIx_l1, gIx_l2, gEqA_int, gEqA_str, gEqA_bl, gTup, gLst, Option.isSome_some, Bool.false_xor, Bool.true_xor, gFor, gNegI, gEqA_no, gIsN_lst, gIsN_tup, gIx_t2, Bool.not_not, dnE, dnL, decide_true, decide_false, gListL_lst, gTupL_lst, gListU_lst, gListU_tup, iOf_int, graphD, edD, optD, pvD, lvD, lvI, trD, Bool.xor_false, Bool.not_false, Bool.not_true]
  rcases ht with ⟨rfl, hno⟩ | ⟨s, is, rfl, hm⟩
  · have f0 : f = 0 := by
      rcases hf with ⟨h, _⟩ | ⟨_, h, _⟩
      · exact h
      · exact absurd h (hno f)
    subst f0
    rw [decide_eq_true (show ((0 : Nat) : Int) = 0 from rfl)]
    try simp only [ownLst, ownObj, mTake, mOf, fAndV, fOrV, fArgs, fCons, fNil, fVar_0, fVar_s, fUn, fBin, fBool, startE, envOf, slot, gSeq, frzE, gComp, gCompD, wipe_nil, wipe_cons, List.map_cons, List.map_nil, List.cons_append, List.nil_append, List.append_nil, true_and, and_true, List.set_cons_zero, List.set_cons_succ, List.length_cons, List.length_nil, List.replicate_succ, List.replicate_zero, Nat.reduceSub, Nat.reduceAdd, Nat.reduceLT, DEnds.fn, bOf_bl, eq_self, reduceIte, Bool.false_eq_true, gNotV_bl, Bool.not_true, Bool.not_false, g2I_int, g2I0_int, g1I_int, gLen_lst, gLen_tup, gInt_int, gMax2_int, gMin2_int, gIsN_non, gIsN_obj, gIsN_dT, gIsN_dK, gIsN_int, xsOf_lst, tsOf_tup, gIx_t0, gIx_t1, gIx_l0, gIx_l1, gIx_l2, gEqA_int, gEqA_str, gEqA_bl, gTup, gLst, Option.isSome_some, Bool.false_xor, Bool.true_xor, gFor, gNegI, gEqA_no, gIsN_lst, gIsN_tup, gIx_t2, Bool.not_not, dnE, dnL, decide_true, decide_false, gListL_lst, gTupL_lst, gListU_lst, gListU_tup, iOf_int, graphD, edD, optD, pvD, lvD, lvI, trD, Bool.xor_false, Bool.not_false, Bool.not_true]
    exact hR
  · have hl := hf.least hm
    have h2 := hm.le ok.wf
    have pos : 0 < is.length := List.length_pos_iff.mpr hm.1
    rw [decide_eq_false (by omega)]
    try simp only [ownLst, ownObj, mTake, mOf, fAndV, fOrV, fArgs, fCons, fNil, fVar_0, fVar_s, fUn, fBin, fBool, startE, envOf, slot, gSeq, frzE, gComp, gCompD, wipe_nil, wipe_cons, List.map_cons, List.map_nil, List.cons_append, List.nil_append, List.append_nil, true_and, and_true, List.set_cons_zero, List.set_cons_succ, List.length_cons, List.length_nil, List.replicate_succ, List.replicate_zero, Nat.reduceSub, Nat.reduceAdd, Nat.reduceLT, DEnds.fn, bOf_bl, eq_self, reduceIte, Bool.false_eq_true, gNotV_bl, Bool.not_true, Bool.not_false, g2I_int, g2I0_int, g1I_int, gLen_lst, gLen_tup, gInt_int, gMax2_int, gMin2_int, gIsN_non, gIsN_obj, gIsN_dT, gIsN_dK, gIsN_int, xsOf_lst, tsOf_tup, gIx_t0, gIx_t1, gIx_l0, gIx_l1, gIx_l2, gEqA_int, gEqA_str, gEqA_bl, gTup, gLst, Option.isSome_some, Bool.false_xor, Bool.true_xor, gFor, gNegI, gEqA_no, gIsN_lst, gIsN_tup, gIx_t2, Bool.not_not, dnE, dnL, decide_true, decide_false, gListL_lst, gTupL_lst, gListU_lst, gListU_tup, iOf_int, graphD, edD, optD, pvD, lvD, lvI, trD, Bool.xor_false, Bool.not_false, Bool.not_true]
    refine ⟨is, rfl, by omega, ?_⟩
    try simp only [ownLst, ownObj, mTake, mOf, fAndV, fOrV, fArgs, fCons, fNil, fVar_0, fVar_s, fUn, fBin, fBool, startE, envOf, slot, gSeq, frzE, gComp, gCompD, wipe_nil, wipe_cons, List.map_cons, List.map_nil, List.cons_append, List.nil_append, List.append_nil, true_and, and_true, List.set_cons_zero, List.set_cons_succ, List.length_cons, List.length_nil, List.replicate_succ, List.replicate_zero, Nat.reduceSub, Nat.reduceAdd, Nat.reduceLT, DEnds.fn, bOf_bl, eq_self, reduceIte, Bool.false_eq_true, gNotV_bl, Bool.not_true, Bool.not_false, g2I_int, g2I0_int, g1I_int, gLen_lst, gLen_tup, gInt_int, gMax2_int, gMin2_int, gIsN_non, gIsN_obj, gIsN_dT, gIsN_dK, gIsN_int, xsOf_lst, tsOf_tup, gIx_t0, gIx_t1, gIx_l0, gIx_l1, gIx_l2, gEqA_int, gEqA_str, gEqA_bl, gTup, gLst, Option.isSome_some, Bool.false_xor, Bool.true_xor, gFor, gNegI, gEqA_no, gIsN_lst, gIsN_tup, gIx_t2, Bool.not_not, dnE, dnL, decide_true, decide_false, gListL_lst, gTupL_lst, gListU_lst, gListU_tup, iOf_int, graphD, edD, optD, pvD, lvD, lvI, trD, Bool.xor_false, Bool.not_false, Bool.not_true]
    rw [List.length_map, decide_eq_true (by rw [hl])]
    try simp only [ownLst, ownObj, mTake, mOf, fAndV, fOrV, fArgs, fCons, fNil, fVar_0, fVar_s, fUn, fBin, fBool, startE, envOf, slot, gSeq, frzE, gComp, gCompD, wipe_nil, wipe_cons, List.map_cons, List.map_nil, List.cons_append, List.nil_append, List.append_nil, true_and, and_true, List.set_cons_zero, List.set_cons_succ, List.length_cons, List.length_nil, List.replicate_succ, List.replicate_zero, Nat.reduceSub, Nat.reduceAdd, Nat.reduceLT, DEnds.fn, bOf_bl, eq_self, reduceIte, Bool.false_eq_true, gNotV_bl, Bool.not_true, Bool.not_false, g2I_int, g2I0_int, g1I_int, gLen_lst, gLen_tup, gInt_int, gMax2_int, gMin2_int, gIsN_non, gIsN_obj, gIsN_dT, gIsN_dK, gIsN_int, xsOf_lst, tsOf_tup, gIx_t0, gIx_t1, gIx_l0, gIx_l1, gIx_l2, gEqA_int, gEqA_str, gEqA_bl, gTup, gLst, Option.isSome_some, Bool.false_xor, Bool.true_xor, gFor, gNegI, gEqA_no, gIsN_lst, gIsN_tup, gIx_t2, Bool.not_not, dnE, dnL, decide_true, decide_false, gListL_lst, gTupL_lst, gListU_lst, gListU_tup, iOf_int, graphD, edD, optD, pvD, lvD, lvI, trD, Bool.xor_false, Bool.not_false, Bool.not_true]
    exact ⟨es, is, n, s, rfl, ok, hm, hR⟩
abbrev s_law_asked : Stmt := topS 20
theorem sc_law_asked : FnScope ["bag", "graph", "turns", "edges", "passed", "fewest", "turn", "told"] ["bag", "graph", "turns"] (defScope s_law_asked) := ⟨rfl, rfl, rfl, by decide +kernel, rfl, by decide +kernel, by decide +kernel⟩
theorem ok_law_asked {f : Addr} {fd : FuncData} (F : Fun K "_law_asked" "_law_asked" s_law_asked f fd) (T : Bi mg) (c_law_draw : Cal P w K mg base "_law_draw" 1 ["bag", "size"] (.own 0) [] wDraw) (c_law_fewest : Cal P w K mg base "_law_fewest" 2 ["count", "edges", "starts"] (.own 0) [] w_law_fewest) (c_law_right : Cal P w K mg base "_law_right" 2 ["edges", "told", "fewest"] (.own 0) [] w_law_right) (c_short_ring : Cal P w K mg base "short_ring" 4 ["count", "edges"] (.own 1) [] w_short_ring) : FnOk P w K mg base CX0 5 f fd ["bag", "graph", "turns"] (spD K (.own 0) w_law_asked) := by
  refine Fun_okD F sc_law_asked (fun _ _ _ h => by obtain ⟨_, _, _, _, _, _, e, _, _, _, _⟩ := h; rw [e]; rfl) fun B cdv A outer s H E hr => ⟨_, (ds_cons (ds_setM 3 0 sc_law_asked.nd rfl (by first | exact Or.inl rfl | exact Or.inr rfl) (by decide) (dm_of (de_at (de_v 1) (de_int (m := .rd)))))
(ds_cons (ds_setM 4 0 sc_law_asked.nd rfl (by first | exact Or.inl rfl | exact Or.inr rfl) (by decide) (dm_of (de_frz (de_listL T.list_ (de_v 3)))))
(ds_cons (ds_if (dt_eq (de_C c_law_draw hr (da_cons (m := .own 0) (de_v 0) (da_cons (m := .own 0) (de_int (m := .own 0)) da_nil))) (de_int (m := .rd)))
(ds_one (ds_setM 4 0 sc_law_asked.nd rfl (by first | exact Or.inl rfl | exact Or.inr rfl) (by decide) (dm_of (de_tupL T.tuple_ (de_v 3)))))
ds_nil)
(ds_cons (ds_setM 5 0 sc_law_asked.nd rfl (by first | exact Or.inl rfl | exact Or.inr rfl) (by decide) (dm_of (de_C c_law_fewest hr (da_cons (m := .own 0) (de_at (de_v 1) (de_int (m := .rd))) (da_cons (m := .own 0) (de_v 3) (da_cons (m := .own 0) (de_at (de_v 1) (de_int (m := .rd))) da_nil))))))
(ds_cons (ds_for PassesOwn.never rfl (di_range T.range_ (de_v 2)) (dg_name 6 sc_law_asked.nd rfl (by first | exact Or.inl rfl | exact Or.inr rfl) (by decide))
(ds_cons (ds_setM 7 1 sc_law_asked.nd rfl (by first | exact Or.inl rfl | exact Or.inr rfl) (by decide) (dm_of (de_C c_short_ring hr (da_cons (m := .own 0) (de_at (de_v 1) (de_int (m := .rd))) (da_cons (m := .own 0) (de_v 4) da_nil)))))
(ds_cons (ds_if (dt_bool (dw_or (dt_not (dt_val (de_CR (n := 0) c_law_right hr (da_cons (m := .rd) (de_rd (de_v 3)) (da_cons (m := .rd) (de_rd (de_var 7 1)) (da_cons (m := .rd) (de_rd (de_v 5)) da_nil)))))) (dw_or1 (dt_neD (hr.u 64) (de_listU T.list_ (de_v 4)) (de_v 3)))))
(ds_one (ds_retM (dm_of (de_bl (m := .own 0)))))
ds_nil)
(ds_one (ds_if (dt_isnot (de_var 7 1) (de_non (m := .rd)))
(ds_one (ds_exprM (m := .own 0) (dm_append 7 0 (dm_of (de_int (m := .own 0))))))
ds_nil)))))
(ds_one (ds_retM (dm_of (de_bl (m := .own 0)))))))))), fun ds R ⟨b, n, es, st, t, hb, e, ok, h1, h2, hR⟩ => ?_⟩
  subst e
  have n1 := ok.g.n0
  have REST : ∀ (ed : D) (f : Nat), isSeq ed (edsD es) → FewOk es f → ∀ (gb : FS), (∀ (k : Nat) v7 (N : Env → Prop), (∀ v7, N [some (0, .raw (.ref b)), some (0, graphD n es st), some (0, natD t), some (0, .lst (edsD es)), some (0, ed), some (0, natD f), some (0, natD k), v7]) → ∀ E : DEnds, E.rt = (fun d x => R d) → E.nx = N →
      gb E [some (0, .raw (.ref b)), some (0, graphD n es st), some (0, natD t), some (0, .lst (edsD es)), some (0, ed), some (0, natD f), some (0, natD k), v7]) →
      rng1 (fun xs => forD (tgN 6) gb xs { nx := fun ρ => R (.bl true), rt := fun d x => R d } [some (0, .raw (.ref b)), some (0, graphD n es st), some (0, natD t), some (0, .lst (edsD es)), some (0, ed), some (0, natD f), none, none]) (natD t) := fun ed f hs hf gb hgb => by
    refine rng_go (by omega) ?_
    refine forD_go (fun xs ρ => ∃ (k m : Nat) (v6 v7 : Option (Nat × D)), k + m = t ∧ xs = (List.range' k m).map natD ∧ ρ = [some (0, .raw (.ref b)), some (0, graphD n es st), some (0, natD t), some (0, .lst (edsD es)), some (0, ed), some (0, natD f), v6, v7]) ?_ ?_ _ _ ⟨0, t, none, none, by omega, rfl, rfl⟩
    · rintro x r ρ ⟨k, m, v6, v7, hk, ex, rfl⟩ N hN
      cases m with
      | zero => cases ex
      | succ m =>
        rw [List.range'_succ, List.map_cons] at ex
        injection ex with ex1 ex2
        subst ex1
        exact ⟨_, rfl, hgb k v7 N (fun v7 => hN _ ⟨k + 1, m, _, v7, by omega, ex2, rfl⟩) _ rfl rfl⟩
    · rintro ρ ⟨k, m, v6, v7, hk, ex, rfl⟩
      exact hR
  try simp only [ownLst, ownObj, mTake, mOf, fAndV, fOrV, fArgs, fCons, fNil, fVar_0, fVar_s, fUn, fBin, fBool, startE, envOf, slot, gSeq, frzE, gComp, gCompD, wipe_nil, wipe_cons, List.map_cons, List.map_nil, List.cons_append, List.nil_append, List.append_nil, true_and, and_true, List.set_cons_zero, List.set_cons_succ, List.length_cons, List.length_nil, List.replicate_succ, List.replicate_zero, Nat.reduceSub, Nat.reduceAdd, Nat.reduceLT, DEnds.fn, bOf_bl, eq_self, reduceIte, Bool.false_eq_true, gNotV_bl, Bool.not_true, Bool.not_false, g2I_int, g2I0_int, g1I_int, gLen_lst, gLen_tup, gInt_int, gMax2_int, gMin2_int, gIsN_non, gIsN_obj, gIsN_dT, gIsN_dK, gIsN_int, xsOf_lst, tsOf_tup, gIx_t0, gIx_t1, gIx_l0, gIx_l1, gIx_l2, gEqA_int, gEqA_str, gEqA_bl, gTup, gLst, Option.isSome_some, Bool.false_xor, Bool.true_xor, gFor, gNegI, gEqA_no, gIsN_lst, gIsN_tup, gIx_t2, Bool.not_not, dnE, dnL, decide_true, decide_false, gListL_lst, gTupL_lst, gListU_lst, gListU_tup, iOf_int, graphD, edD, optD, pvD, lvD, lvI, trD, Bool.xor_false, Bool.not_false, Bool.not_true]
  refine drawN 3 hb (by decide) (by decide) fun q hq => ?_
  try simp only [ownLst, ownObj, mTake, mOf, fAndV, fOrV, fArgs, fCons, fNil, fVar_0, fVar_s, fUn, fBin, fBool, startE, envOf, slot, gSeq, frzE, gComp, gCompD, wipe_nil, wipe_cons, List.map_cons, List.map_nil, List.cons_append, List.nil_append, List.append_nil, true_and, and_true, List.set_cons_zero, List.set_cons_succ, List.length_cons, List.length_nil, List.replicate_succ, List.replicate_zero, Nat.reduceSub, Nat.reduceAdd, Nat.reduceLT, DEnds.fn, bOf_bl, eq_self, reduceIte, Bool.false_eq_true, gNotV_bl, Bool.not_true, Bool.not_false, g2I_int, g2I0_int, g1I_int, gLen_lst, gLen_tup, gInt_int, gMax2_int, gMin2_int, gIsN_non, gIsN_obj, gIsN_dT, gIsN_dK, gIsN_int, xsOf_lst, tsOf_tup, gIx_t0, gIx_t1, gIx_l0, gIx_l1, gIx_l2, gEqA_int, gEqA_str, gEqA_bl, gTup, gLst, Option.isSome_some, Bool.false_xor, Bool.true_xor, gFor, gNegI, gEqA_no, gIsN_lst, gIsN_tup, gIx_t2, Bool.not_not, dnE, dnL, decide_true, decide_false, gListL_lst, gTupL_lst, gListU_lst, gListU_tup, iOf_int, graphD, edD, optD, pvD, lvD, lvI, trD, Bool.xor_false, Bool.not_false, Bool.not_true]
  by_cases c0 : (q : Int) = 0
  case' pos => rw [decide_eq_true c0]
  case' neg => rw [decide_eq_false c0]
  all_goals
    try simp only [ownLst, ownObj, mTake, mOf, fAndV, fOrV, fArgs, fCons, fNil, fVar_0, fVar_s, fUn, fBin, fBool, startE, envOf, slot, gSeq, frzE, gComp, gCompD, wipe_nil, wipe_cons, List.map_cons, List.map_nil, List.cons_append, List.nil_append, List.append_nil, true_and, and_true, List.set_cons_zero, List.set_cons_succ, List.length_cons, List.length_nil, List.replicate_succ, List.replicate_zero, Nat.reduceSub, Nat.reduceAdd, Nat.reduceLT, DEnds.fn, bOf_bl, eq_self, reduceIte, Bool.false_eq_true, gNotV_bl, Bool.not_true, Bool.not_false, g2I_int, g2I0_int, g1I_int, gLen_lst, gLen_tup, gInt_int, gMax2_int, gMin2_int, gIsN_non, gIsN_obj, gIsN_dT, gIsN_dK, gIsN_int, xsOf_lst, tsOf_tup, gIx_t0, gIx_t1, gIx_l0, gIx_l1, gIx_l2, gEqA_int, gEqA_str, gEqA_bl, gTup, gLst, Option.isSome_some, Bool.false_xor, Bool.true_xor, gFor, gNegI, gEqA_no, gIsN_lst, gIsN_tup, gIx_t2, Bool.not_not, dnE, dnL, decide_true, decide_false, gListL_lst, gTupL_lst, gListU_lst, gListU_tup, iOf_int, graphD, edD, optD, pvD, lvD, lvI, trD, Bool.xor_false, Bool.not_false, Bool.not_true]
    refine ⟨n, es, st, rfl, ok, fun f hf => ?_⟩
    refine REST _ f (by first | exact .inl rfl | exact .inr rfl) hf _ fun k v7 N nx E hrt hnx => ?_
    obtain ⟨nx0, rt0, bk0, ct0⟩ := E
    have hrt : rt0 = fun d x => R d := hrt
    have hnx : nx0 = N := hnx
    subst hrt
    subst hnx
    try simp only [ownLst, ownObj, mTake, mOf, fAndV, fOrV, fArgs, fCons, fNil, fVar_0, fVar_s, fUn, fBin, fBool, startE, envOf, slot, gSeq, frzE, gComp, gCompD, wipe_nil, wipe_cons, List.map_cons, List.map_nil, List.cons_append, List.nil_append, List.append_nil, true_and, and_true, List.set_cons_zero, List.set_cons_succ, List.length_cons, List.length_nil, List.replicate_succ, List.replicate_zero, Nat.reduceSub, Nat.reduceAdd, Nat.reduceLT, DEnds.fn, bOf_bl, eq_self, reduceIte, Bool.false_eq_true, gNotV_bl, Bool.not_true, Bool.not_false, g2I_int, g2I0_int, g1I_int, gLen_lst, gLen_tup, gInt_int, gMax2_int, gMin2_int, gIsN_non, gIsN_obj, gIsN_dT, gIsN_dK, gIsN_int, xsOf_lst, tsOf_tup, gIx_t0, gIx_t1, gIx_l0, gIx_l1, gIx_l2, gEqA_int, gEqA_str, gEqA_bl, gTup, gLst, Option.isSome_some, Bool.false_xor, Bool.true_xor, gFor, gNegI, gEqA_no, gIsN_lst, gIsN_tup, gIx_t2, Bool.not_not, dnE, dnL, decide_true, decide_false, gListL_lst, gTupL_lst, gListU_lst, gListU_tup, iOf_int, graphD, edD, optD, pvD, lvD, lvI, trD, Bool.xor_false, Bool.not_false, Bool.not_true]
    refine ⟨es, n, _, rfl, (by first | exact .inl rfl | exact .inr rfl), ok.g, fun hno => ?_, fun s is hm => ?_⟩
    · try simp only [ownLst, ownObj, mTake, mOf, fAndV, fOrV, fArgs, fCons, fNil, fVar_0, fVar_s, fUn, fBin, fBool, startE, envOf, slot, gSeq, frzE, gComp, gCompD, wipe_nil, wipe_cons, List.map_cons, List.map_nil, List.cons_append, List.nil_append, List.append_nil, true_and, and_true, List.set_cons_zero, List.set_cons_succ, List.length_cons, List.length_nil, List.replicate_succ, List.replicate_zero, Nat.reduceSub, Nat.reduceAdd, Nat.reduceLT, DEnds.fn, bOf_bl, eq_self, reduceIte, Bool.false_eq_true, gNotV_bl, Bool.not_true, Bool.not_false, g2I_int, g2I0_int, g1I_int, gLen_lst, gLen_tup, gInt_int, gMax2_int, gMin2_int, gIsN_non, gIsN_obj, gIsN_dT, gIsN_dK, gIsN_int, xsOf_lst, tsOf_tup, gIx_t0, gIx_t1, gIx_l0, gIx_l1, gIx_l2, gEqA_int, gEqA_str, gEqA_bl, gTup, gLst, Option.isSome_some, Bool.false_xor, Bool.true_xor, gFor, gNegI, gEqA_no, gIsN_lst, gIsN_tup, gIx_t2, Bool.not_not, dnE, dnL, decide_true, decide_false, gListL_lst, gTupL_lst, gListU_lst, gListU_tup, iOf_int, graphD, edD, optD, pvD, lvD, lvI, trD, Bool.xor_false, Bool.not_false, Bool.not_true]
      refine ⟨es, n, f, .non, rfl, ok.g, hf, .inl ⟨rfl, hno⟩, rfl, ?_⟩
      try simp only [ownLst, ownObj, mTake, mOf, fAndV, fOrV, fArgs, fCons, fNil, fVar_0, fVar_s, fUn, fBin, fBool, startE, envOf, slot, gSeq, frzE, gComp, gCompD, wipe_nil, wipe_cons, List.map_cons, List.map_nil, List.cons_append, List.nil_append, List.append_nil, true_and, and_true, List.set_cons_zero, List.set_cons_succ, List.length_cons, List.length_nil, List.replicate_succ, List.replicate_zero, Nat.reduceSub, Nat.reduceAdd, Nat.reduceLT, DEnds.fn, bOf_bl, eq_self, reduceIte, Bool.false_eq_true, gNotV_bl, Bool.not_true, Bool.not_false, g2I_int, g2I0_int, g1I_int, gLen_lst, gLen_tup, gInt_int, gMax2_int, gMin2_int, gIsN_non, gIsN_obj, gIsN_dT, gIsN_dK, gIsN_int, xsOf_lst, tsOf_tup, gIx_t0, gIx_t1, gIx_l0, gIx_l1, gIx_l2, gEqA_int, gEqA_str, gEqA_bl, gTup, gLst, Option.isSome_some, Bool.false_xor, Bool.true_xor, gFor, gNegI, gEqA_no, gIsN_lst, gIsN_tup, gIx_t2, Bool.not_not, dnE, dnL, decide_true, decide_false, gListL_lst, gTupL_lst, gListU_lst, gListU_tup, iOf_int, graphD, edD, optD, pvD, lvD, lvI, trD, Bool.xor_false, Bool.not_false, Bool.not_true]
      refine eqD_self (ok_eds es) ?_
      try simp only [ownLst, ownObj, mTake, mOf, fAndV, fOrV, fArgs, fCons, fNil, fVar_0, fVar_s, fUn, fBin, fBool, startE, envOf, slot, gSeq, frzE, gComp, gCompD, wipe_nil, wipe_cons, List.map_cons, List.map_nil, List.cons_append, List.nil_append, List.append_nil, true_and, and_true, List.set_cons_zero, List.set_cons_succ, List.length_cons, List.length_nil, List.replicate_succ, List.replicate_zero, Nat.reduceSub, Nat.reduceAdd, Nat.reduceLT, DEnds.fn, bOf_bl, eq_self, reduceIte, Bool.false_eq_true, gNotV_bl, Bool.not_true, Bool.not_false, g2I_int, g2I0_int, g1I_int, gLen_lst, gLen_tup, gInt_int, gMax2_int, gMin2_int, gIsN_non, gIsN_obj, gIsN_dT, gIsN_dK, gIsN_int, xsOf_lst, tsOf_tup, gIx_t0, gIx_t1, gIx_l0, gIx_l1, gIx_l2, gEqA_int, gEqA_str, gEqA_bl, gTup, gLst, Option.isSome_some, Bool.false_xor, Bool.true_xor, gFor, gNegI, gEqA_no, gIsN_lst, gIsN_tup, gIx_t2, Bool.not_not, dnE, dnL, decide_true, decide_false, gListL_lst, gTupL_lst, gListU_lst, gListU_tup, iOf_int, graphD, edD, optD, pvD, lvD, lvI, trD, Bool.xor_false, Bool.not_false, Bool.not_true]
      exact nx _
    · try simp only [ownLst, ownObj, mTake, mOf, fAndV, fOrV, fArgs, fCons, fNil, fVar_0, fVar_s, fUn, fBin, fBool, startE, envOf, slot, gSeq, frzE, gComp, gCompD, wipe_nil, wipe_cons, List.map_cons, List.map_nil, List.cons_append, List.nil_append, List.append_nil, true_and, and_true, List.set_cons_zero, List.set_cons_succ, List.length_cons, List.length_nil, List.replicate_succ, List.replicate_zero, Nat.reduceSub, Nat.reduceAdd, Nat.reduceLT, DEnds.fn, bOf_bl, eq_self, reduceIte, Bool.false_eq_true, gNotV_bl, Bool.not_true, Bool.not_false, g2I_int, g2I0_int, g1I_int, gLen_lst, gLen_tup, gInt_int, gMax2_int, gMin2_int, gIsN_non, gIsN_obj, gIsN_dT, gIsN_dK, gIsN_int, xsOf_lst, tsOf_tup, gIx_t0, gIx_t1, gIx_l0, gIx_l1, gIx_l2, gEqA_int, gEqA_str, gEqA_bl, gTup, gLst, Option.isSome_some, Bool.false_xor, Bool.true_xor, gFor, gNegI, gEqA_no, gIsN_lst, gIsN_tup, gIx_t2, Bool.not_not, dnE, dnL, decide_true, decide_false, gListL_lst, gTupL_lst, gListU_lst, gListU_tup, iOf_int, graphD, edD, optD, pvD, lvD, lvI, trD, Bool.xor_false, Bool.not_false, Bool.not_true]
      refine ⟨es, n, f, _, rfl, ok.g, hf, .inr ⟨s, is, rfl, hm⟩, rfl, ?_⟩
      try simp only [ownLst, ownObj, mTake, mOf, fAndV, fOrV, fArgs, fCons, fNil, fVar_0, fVar_s, fUn, fBin, fBool, startE, envOf, slot, gSeq, frzE, gComp, gCompD, wipe_nil, wipe_cons, List.map_cons, List.map_nil, List.cons_append, List.nil_append, List.append_nil, true_and, and_true, List.set_cons_zero, List.set_cons_succ, List.length_cons, List.length_nil, List.replicate_succ, List.replicate_zero, Nat.reduceSub, Nat.reduceAdd, Nat.reduceLT, DEnds.fn, bOf_bl, eq_self, reduceIte, Bool.false_eq_true, gNotV_bl, Bool.not_true, Bool.not_false, g2I_int, g2I0_int, g1I_int, gLen_lst, gLen_tup, gInt_int, gMax2_int, gMin2_int, gIsN_non, gIsN_obj, gIsN_dT, gIsN_dK, gIsN_int, xsOf_lst, tsOf_tup, gIx_t0, gIx_t1, gIx_l0, gIx_l1, gIx_l2, gEqA_int, gEqA_str, gEqA_bl, gTup, gLst, Option.isSome_some, Bool.false_xor, Bool.true_xor, gFor, gNegI, gEqA_no, gIsN_lst, gIsN_tup, gIx_t2, Bool.not_not, dnE, dnL, decide_true, decide_false, gListL_lst, gTupL_lst, gListU_lst, gListU_tup, iOf_int, graphD, edD, optD, pvD, lvD, lvI, trD, Bool.xor_false, Bool.not_false, Bool.not_true]
      refine eqD_self (ok_eds es) ?_
      try simp only [ownLst, ownObj, mTake, mOf, fAndV, fOrV, fArgs, fCons, fNil, fVar_0, fVar_s, fUn, fBin, fBool, startE, envOf, slot, gSeq, frzE, gComp, gCompD, wipe_nil, wipe_cons, List.map_cons, List.map_nil, List.cons_append, List.nil_append, List.append_nil, true_and, and_true, List.set_cons_zero, List.set_cons_succ, List.length_cons, List.length_nil, List.replicate_succ, List.replicate_zero, Nat.reduceSub, Nat.reduceAdd, Nat.reduceLT, DEnds.fn, bOf_bl, eq_self, reduceIte, Bool.false_eq_true, gNotV_bl, Bool.not_true, Bool.not_false, g2I_int, g2I0_int, g1I_int, gLen_lst, gLen_tup, gInt_int, gMax2_int, gMin2_int, gIsN_non, gIsN_obj, gIsN_dT, gIsN_dK, gIsN_int, xsOf_lst, tsOf_tup, gIx_t0, gIx_t1, gIx_l0, gIx_l1, gIx_l2, gEqA_int, gEqA_str, gEqA_bl, gTup, gLst, Option.isSome_some, Bool.false_xor, Bool.true_xor, gFor, gNegI, gEqA_no, gIsN_lst, gIsN_tup, gIx_t2, Bool.not_not, dnE, dnL, decide_true, decide_false, gListL_lst, gTupL_lst, gListU_lst, gListU_tup, iOf_int, graphD, edD, optD, pvD, lvD, lvI, trD, Bool.xor_false, Bool.not_false, Bool.not_true]
      have := hm.le ok.g.wf
      exact ⟨by rw [List.length_map, szL]; omega, nx _⟩
abbrev s_law_looped : Stmt := topS 21
theorem sc_law_looped : FnScope ["bag", "graph", "passed", "node", "at"] ["bag", "graph"] (defScope s_law_looped) := ⟨rfl, rfl, rfl, by decide +kernel, rfl, by decide +kernel, by decide +kernel⟩
theorem ok_law_looped {f : Addr} {fd : FuncData} (F : Fun K "_law_looped" "_law_looped" s_law_looped f fd) (T : Bi mg) (c_law_draw : Cal P w K mg base "_law_draw" 1 ["bag", "size"] (.own 0) [] wDraw) (c_law_right : Cal P w K mg base "_law_right" 2 ["edges", "told", "fewest"] (.own 0) [] w_law_right) (c_short_ring : Cal P w K mg base "short_ring" 4 ["count", "edges"] (.own 1) [] w_short_ring) : FnOk P w K mg base CX0 5 f fd ["bag", "graph"] (spD K (.own 0) w_law_looped) := by
  refine Fun_okD F sc_law_looped (fun _ _ _ h => by obtain ⟨_, _, _, _, _, e, _, _, _⟩ := h; rw [e]; rfl) fun B cdv A outer s H E hr => ⟨_, (ds_cons (ds_setM 2 1 sc_law_looped.nd rfl (by first | exact Or.inl rfl | exact Or.inr rfl) (by decide) (dm_of (de_listL T.list_ (de_at (de_v 1) (de_int (m := .rd))))))
(ds_cons (ds_if (dt_eq (de_at (de_v 1) (de_int (m := .rd))) (de_int (m := .rd)))
(ds_one (ds_retM (dm_of (de_bl (m := .own 0)))))
ds_nil)
(ds_cons (ds_exprM (dm_of (de_frz (de_CR (n := 1) c_short_ring hr (da_cons (m := .rd) (de_rd (de_at (de_v 1) (de_int (m := .rd)))) (da_cons (m := .rd) (de_rd (de_var 2 1)) da_nil))))))
(ds_cons (ds_setM 3 0 sc_law_looped.nd rfl (by first | exact Or.inl rfl | exact Or.inr rfl) (by decide) (dm_of (de_C c_law_draw hr (da_cons (m := .own 0) (de_v 0) (da_cons (m := .own 0) (de_at (de_v 1) (de_int (m := .rd))) da_nil)))))
(ds_cons (ds_setM 4 0 sc_law_looped.nd rfl (by first | exact Or.inl rfl | exact Or.inr rfl) (by decide) (dm_of (de_C c_law_draw hr (da_cons (m := .own 0) (de_v 0) (da_cons (m := .own 0) (de_add (m := .own 0) (de_len (m := .rd) T.len_ (de_var 2 1)) (de_int (m := .rd))) da_nil)))))
(ds_cons (ds_exprM (m := .own 0) (dm_insert 2 0 (de_v 4) (de_tup (da_cons (m := .own 0) (de_v 3) (da_cons (m := .own 0) (de_v 3) (da_cons (m := .own 0) (de_sub (m := .own 0) (de_int (m := .rd)) (de_int (m := .rd))) da_nil))))))
(ds_one (ds_frz 2 (ds_retM (dm_of (de_C c_law_right hr (da_cons (m := .own 0) (de_v 2) (da_cons (m := .own 0) (de_frz (de_C c_short_ring hr (da_cons (m := .own 0) (de_at (de_v 1) (de_int (m := .rd))) (da_cons (m := .own 0) (de_v 2) da_nil)))) (da_cons (m := .own 0) (de_int (m := .own 0)) da_nil)))))))))))))), fun ds R ⟨b, n, es, st, hb, e, ok, h2, hR⟩ => ?_⟩
  subst e
  have n1 := ok.g.n0
  try simp only [ownLst, ownObj, mTake, mOf, fAndV, fOrV, fArgs, fCons, fNil, fVar_0, fVar_s, fUn, fBin, fBool, startE, envOf, slot, gSeq, frzE, gComp, gCompD, wipe_nil, wipe_cons, List.map_cons, List.map_nil, List.cons_append, List.nil_append, List.append_nil, true_and, and_true, List.set_cons_zero, List.set_cons_succ, List.length_cons, List.length_nil, List.replicate_succ, List.replicate_zero, Nat.reduceSub, Nat.reduceAdd, Nat.reduceLT, DEnds.fn, bOf_bl, eq_self, reduceIte, Bool.false_eq_true, gNotV_bl, Bool.not_true, Bool.not_false, g2I_int, g2I0_int, g1I_int, gLen_lst, gLen_tup, gInt_int, gMax2_int, gMin2_int, gIsN_non, gIsN_obj, gIsN_dT, gIsN_dK, gIsN_int, xsOf_lst, tsOf_tup, gIx_t0, gIx_t1, gIx_l0, gIx_l1, gIx_l2, gEqA_int, gEqA_str, gEqA_bl, gTup, gLst, Option.isSome_some, Bool.false_xor, Bool.true_xor, gFor, gNegI, gEqA_no, gIsN_lst, gIsN_tup, gIx_t2, Bool.not_not, dnE, dnL, decide_true, decide_false, gListL_lst, gTupL_lst, gListU_lst, gListU_tup, iOf_int, graphD, edD, optD, pvD, lvD, lvI, trD, Bool.xor_false, Bool.not_false, Bool.not_true]
  by_cases n0 : (n : Int) = 0
  · rw [decide_eq_true n0]
    try simp only [ownLst, ownObj, mTake, mOf, fAndV, fOrV, fArgs, fCons, fNil, fVar_0, fVar_s, fUn, fBin, fBool, startE, envOf, slot, gSeq, frzE, gComp, gCompD, wipe_nil, wipe_cons, List.map_cons, List.map_nil, List.cons_append, List.nil_append, List.append_nil, true_and, and_true, List.set_cons_zero, List.set_cons_succ, List.length_cons, List.length_nil, List.replicate_succ, List.replicate_zero, Nat.reduceSub, Nat.reduceAdd, Nat.reduceLT, DEnds.fn, bOf_bl, eq_self, reduceIte, Bool.false_eq_true, gNotV_bl, Bool.not_true, Bool.not_false, g2I_int, g2I0_int, g1I_int, gLen_lst, gLen_tup, gInt_int, gMax2_int, gMin2_int, gIsN_non, gIsN_obj, gIsN_dT, gIsN_dK, gIsN_int, xsOf_lst, tsOf_tup, gIx_t0, gIx_t1, gIx_l0, gIx_l1, gIx_l2, gEqA_int, gEqA_str, gEqA_bl, gTup, gLst, Option.isSome_some, Bool.false_xor, Bool.true_xor, gFor, gNegI, gEqA_no, gIsN_lst, gIsN_tup, gIx_t2, Bool.not_not, dnE, dnL, decide_true, decide_false, gListL_lst, gTupL_lst, gListU_lst, gListU_tup, iOf_int, graphD, edD, optD, pvD, lvD, lvI, trD, Bool.xor_false, Bool.not_false, Bool.not_true]
    exact hR
  rw [decide_eq_false n0]
  try simp only [ownLst, ownObj, mTake, mOf, fAndV, fOrV, fArgs, fCons, fNil, fVar_0, fVar_s, fUn, fBin, fBool, startE, envOf, slot, gSeq, frzE, gComp, gCompD, wipe_nil, wipe_cons, List.map_cons, List.map_nil, List.cons_append, List.nil_append, List.append_nil, true_and, and_true, List.set_cons_zero, List.set_cons_succ, List.length_cons, List.length_nil, List.replicate_succ, List.replicate_zero, Nat.reduceSub, Nat.reduceAdd, Nat.reduceLT, DEnds.fn, bOf_bl, eq_self, reduceIte, Bool.false_eq_true, gNotV_bl, Bool.not_true, Bool.not_false, g2I_int, g2I0_int, g1I_int, gLen_lst, gLen_tup, gInt_int, gMax2_int, gMin2_int, gIsN_non, gIsN_obj, gIsN_dT, gIsN_dK, gIsN_int, xsOf_lst, tsOf_tup, gIx_t0, gIx_t1, gIx_l0, gIx_l1, gIx_l2, gEqA_int, gEqA_str, gEqA_bl, gTup, gLst, Option.isSome_some, Bool.false_xor, Bool.true_xor, gFor, gNegI, gEqA_no, gIsN_lst, gIsN_tup, gIx_t2, Bool.not_not, dnE, dnL, decide_true, decide_false, gListL_lst, gTupL_lst, gListU_lst, gListU_tup, iOf_int, graphD, edD, optD, pvD, lvD, lvI, trD, Bool.xor_false, Bool.not_false, Bool.not_true]
  have el : (edsD es).length = es.length := List.length_map ..
  refine ⟨es, n, .lst (edsD es), rfl, .inl rfl, ok.g, fun hno => ⟨rfl, ?_⟩, fun s is hm => ⟨flat_nats is, ?_⟩⟩
  all_goals
    refine drawN n hb (by omega) (by omega) fun v hv => ?_
    try simp only [ownLst, ownObj, mTake, mOf, fAndV, fOrV, fArgs, fCons, fNil, fVar_0, fVar_s, fUn, fBin, fBool, startE, envOf, slot, gSeq, frzE, gComp, gCompD, wipe_nil, wipe_cons, List.map_cons, List.map_nil, List.cons_append, List.nil_append, List.append_nil, true_and, and_true, List.set_cons_zero, List.set_cons_succ, List.length_cons, List.length_nil, List.replicate_succ, List.replicate_zero, Nat.reduceSub, Nat.reduceAdd, Nat.reduceLT, DEnds.fn, bOf_bl, eq_self, reduceIte, Bool.false_eq_true, gNotV_bl, Bool.not_true, Bool.not_false, g2I_int, g2I0_int, g1I_int, gLen_lst, gLen_tup, gInt_int, gMax2_int, gMin2_int, gIsN_non, gIsN_obj, gIsN_dT, gIsN_dK, gIsN_int, xsOf_lst, tsOf_tup, gIx_t0, gIx_t1, gIx_l0, gIx_l1, gIx_l2, gEqA_int, gEqA_str, gEqA_bl, gTup, gLst, Option.isSome_some, Bool.false_xor, Bool.true_xor, gFor, gNegI, gEqA_no, gIsN_lst, gIsN_tup, gIx_t2, Bool.not_not, dnE, dnL, decide_true, decide_false, gListL_lst, gTupL_lst, gListU_lst, gListU_tup, iOf_int, graphD, edD, optD, pvD, lvD, lvI, trD, Bool.xor_false, Bool.not_false, Bool.not_true]
    rw [el]
    refine drawN (es.length + 1) hb (by omega) (by omega) fun j hj => ?_
    refine ⟨by decide, _, rfl, by omega, by omega, by rw [szL]; omega, ?_⟩
    rw [Int.toNat_natCast, show insD (edsD es) j (.tup [natD v, natD v, .int (0 - 1)]) = edsD (insN es j (v, v, -1)) from insE]
    have g2 : GOk (insN es j (v, v, -1)) n := ⟨fun e he => (insN_mem he).elim (fun z => by rw [z]; exact ⟨hv, hv⟩) (ok.g.wf e), n1, by rw [insN_len]; omega⟩
    refine ⟨_, n, .lst (edsD (insN es j (v, v, -1))), rfl, .inl rfl, g2, fun hno => absurd cn_loop (hno 1), fun s is hm => ?_⟩
    exact ⟨_, n, 1, _, rfl, g2, few_loop, .inr ⟨s, is, rfl, hm⟩, hR⟩
end
end GK

namespace GK
open PySem PySem.Spec PyProof.Rows L2
open N2
section
variable {P : Program} {w : World} {K : PySem.W.Frag} {mg : Str → Option Value} {base : Heap}
abbrev s_law : Stmt := topS 22
theorem sc_law : FnScope ["script", "bag", "first", "second", "graph"] ["script"] (defScope s_law) := ⟨rfl, rfl, rfl, by decide +kernel, rfl, by decide +kernel, by decide +kernel⟩
theorem ok_law {f fB : Addr} {fd fdB : FuncData} (F : Fun K "law" "law" s_law f fd) (T : Bi mg) (FB : FnOk P w K mg base CX0 1 fB fdB ["script"] (spBag K)) (mB : mg "_law_bag" = some (.ref fB)) (kB : PySem.W.keepIn K (.ref fB) = true) (bB : Binds K fdB ["script"] []) (c_law_asked : Cal P w K mg base "_law_asked" 5 ["bag", "graph", "turns"] (.own 0) [] w_law_asked) (c_law_draw : Cal P w K mg base "_law_draw" 1 ["bag", "size"] (.own 0) [] wDraw) (c_law_graph : Cal P w K mg base "_law_graph" 4 ["bag"] (.own 0) [] w_law_graph) (c_law_looped : Cal P w K mg base "_law_looped" 5 ["bag", "graph"] (.own 0) [] w_law_looped) (c_law_round : Cal P w K mg base "_law_round" 2 ["bag", "count", "chords"] (.own 0) [] w_law_round) :
    FnOk P w K mg base CX0 6 f fd ["script"] (spLaw K) := by
  refine F.ok sc_law (fun vs H Q E ⟨a, ns, e, _⟩ => by rw [e]; rfl) fun cdv A outer s H vs Q E hr ⟨a, ns, e, hs, hlen, hO, hq⟩ => ?_
  subst e
  refine ⟨_, pss_cons (ps_set (i := 1) sc_law.nd rfl (Or.inl rfl) (pe_call FB (hr.mono (by decide)) rfl mB kB bB .nil pass0 (pa_cons (pv 0) pa_nil))) (law_rest fun B => (ds_cons (ds_setM 2 0 sc_law.nd rfl (by first | exact Or.inl rfl | exact Or.inr rfl) (by decide) (dm_of (de_C c_law_graph hr (da_cons (m := .own 0) (de_v 1) da_nil))))
(ds_cons (ds_setM 3 0 sc_law.nd rfl (by first | exact Or.inl rfl | exact Or.inr rfl) (by decide) (dm_of (de_C c_law_round hr (da_cons (m := .own 0) (de_v 1) (da_cons (m := .own 0) (de_add (m := .own 0) (de_int (m := .rd)) (de_C c_law_draw hr (da_cons (m := .own 0) (de_v 1) (da_cons (m := .own 0) (de_int (m := .own 0)) da_nil)))) (da_cons (m := .own 0) (de_add (m := .own 0) (de_int (m := .rd)) (de_C c_law_draw hr (da_cons (m := .own 0) (de_v 1) (da_cons (m := .own 0) (de_int (m := .own 0)) da_nil)))) da_nil))))))
(ds_cons (ds_if (dt_gt (de_at (de_v 2) (de_int (m := .rd))) (de_int (m := .rd)))
(ds_one (ds_retM (dm_of (de_and (m := .own 0) (de_C c_law_asked hr (da_cons (m := .own 0) (de_v 1) (da_cons (m := .own 0) (de_v 2) (da_cons (m := .own 0) (de_int (m := .own 0)) da_nil)))) (de_one (de_C c_law_asked hr (da_cons (m := .own 0) (de_v 1) (da_cons (m := .own 0) (de_v 3) (da_cons (m := .own 0) (de_int (m := .own 0)) da_nil)))))))))
ds_nil)
(ds_cons (ds_for PassesOwn.never rfl (di_list (de_frz (de_lst 0 (da_cons (m := .own 0) (de_v 2) (da_cons (m := .own 0) (de_v 3) (da_cons (m := .own 0) (de_v 2) da_nil)))))) (dg_name 4 sc_law.nd rfl (by first | exact Or.inl rfl | exact Or.inr rfl) (by decide))
(ds_one (ds_if (dt_not (dt_val (de_C c_law_asked hr (da_cons (m := .own 0) (de_v 1) (da_cons (m := .own 0) (de_v 4) (da_cons (m := .own 0) (de_int (m := .own 0)) da_nil))))))
(ds_one (ds_retM (dm_of (de_bl (m := .own 0)))))
ds_nil)))
(ds_one (ds_retM (dm_of (de_and (m := .own 0) (de_C c_law_looped hr (da_cons (m := .own 0) (de_v 1) (da_cons (m := .own 0) (de_v 2) da_nil))) (de_one (de_C c_law_looped hr (da_cons (m := .own 0) (de_v 1) (da_cons (m := .own 0) (de_v 3) da_nil))))))))))))), ?_⟩
  refine ⟨_, rfl, a, ns, rfl, hs, hlen, fun b c l cells left H' nb n1 n2 n3 l0 l63 le hk hlk h1 h2 h3 => ?_⟩
  refine fun N hN => law_start (n := 3) hO hN nb n1 n2 n3 l0 l63 le hlk h1 h2 h3 (fun B hb => ?_) (fun H2 => hq H2)
  try simp only [ownLst, ownObj, mTake, mOf, fAndV, fOrV, fArgs, fCons, fNil, fVar_0, fVar_s, fUn, fBin, fBool, startE, envOf, slot, gSeq, frzE, gComp, gCompD, wipe_nil, wipe_cons, List.map_cons, List.map_nil, List.cons_append, List.nil_append, List.append_nil, true_and, and_true, List.set_cons_zero, List.set_cons_succ, List.length_cons, List.length_nil, List.replicate_succ, List.replicate_zero, Nat.reduceSub, Nat.reduceAdd, Nat.reduceLT, DEnds.fn, bOf_bl, eq_self, reduceIte, Bool.false_eq_true, gNotV_bl, Bool.not_true, Bool.not_false, g2I_int, g2I0_int, g1I_int, gLen_lst, gLen_tup, gInt_int, gMax2_int, gMin2_int, gIsN_non, gIsN_obj, gIsN_dT, gIsN_dK, gIsN_int, xsOf_lst, tsOf_tup, gIx_t0, gIx_t1, gIx_l0, gIx_l1, gIx_l2, gEqA_int, gEqA_str, gEqA_bl, gTup, gLst, Option.isSome_some, Bool.false_xor, Bool.true_xor, gFor, gNegI, gEqA_no, gIsN_lst, gIsN_tup, gIx_t2, Bool.not_not, dnE, dnL, decide_true, decide_false, gListL_lst, gTupL_lst, gListU_lst, gListU_tup, iOf_int, graphD, edD, optD, pvD, lvD, lvI, trD, Bool.xor_false, Bool.not_false, Bool.not_true]
  refine ⟨b, hb, rfl, fun m1 e1 s1 g1 le1 => ?_⟩
  refine drawN 4 hb (by decide) (by decide) fun q hq => ?_
  try simp only [ownLst, ownObj, mTake, mOf, fAndV, fOrV, fArgs, fCons, fNil, fVar_0, fVar_s, fUn, fBin, fBool, startE, envOf, slot, gSeq, frzE, gComp, gCompD, wipe_nil, wipe_cons, List.map_cons, List.map_nil, List.cons_append, List.nil_append, List.append_nil, true_and, and_true, List.set_cons_zero, List.set_cons_succ, List.length_cons, List.length_nil, List.replicate_succ, List.replicate_zero, Nat.reduceSub, Nat.reduceAdd, Nat.reduceLT, DEnds.fn, bOf_bl, eq_self, reduceIte, Bool.false_eq_true, gNotV_bl, Bool.not_true, Bool.not_false, g2I_int, g2I0_int, g1I_int, gLen_lst, gLen_tup, gInt_int, gMax2_int, gMin2_int, gIsN_non, gIsN_obj, gIsN_dT, gIsN_dK, gIsN_int, xsOf_lst, tsOf_tup, gIx_t0, gIx_t1, gIx_l0, gIx_l1, gIx_l2, gEqA_int, gEqA_str, gEqA_bl, gTup, gLst, Option.isSome_some, Bool.false_xor, Bool.true_xor, gFor, gNegI, gEqA_no, gIsN_lst, gIsN_tup, gIx_t2, Bool.not_not, dnE, dnL, decide_true, decide_false, gListL_lst, gTupL_lst, gListU_lst, gListU_tup, iOf_int, graphD, edD, optD, pvD, lvD, lvI, trD, Bool.xor_false, Bool.not_false, Bool.not_true]
  refine drawN 4 hb (by decide) (by decide) fun q2 hq2 => ?_
  try simp only [ownLst, ownObj, mTake, mOf, fAndV, fOrV, fArgs, fCons, fNil, fVar_0, fVar_s, fUn, fBin, fBool, startE, envOf, slot, gSeq, frzE, gComp, gCompD, wipe_nil, wipe_cons, List.map_cons, List.map_nil, List.cons_append, List.nil_append, List.append_nil, true_and, and_true, List.set_cons_zero, List.set_cons_succ, List.length_cons, List.length_nil, List.replicate_succ, List.replicate_zero, Nat.reduceSub, Nat.reduceAdd, Nat.reduceLT, DEnds.fn, bOf_bl, eq_self, reduceIte, Bool.false_eq_true, gNotV_bl, Bool.not_true, Bool.not_false, g2I_int, g2I0_int, g1I_int, gLen_lst, gLen_tup, gInt_int, gMax2_int, gMin2_int, gIsN_non, gIsN_obj, gIsN_dT, gIsN_dK, gIsN_int, xsOf_lst, tsOf_tup, gIx_t0, gIx_t1, gIx_l0, gIx_l1, gIx_l2, gEqA_int, gEqA_str, gEqA_bl, gTup, gLst, Option.isSome_some, Bool.false_xor, Bool.true_xor, gFor, gNegI, gEqA_no, gIsN_lst, gIsN_tup, gIx_t2, Bool.not_not, dnE, dnL, decide_true, decide_false, gListL_lst, gTupL_lst, gListU_lst, gListU_tup, iOf_int, graphD, edD, optD, pvD, lvD, lvI, trD, Bool.xor_false, Bool.not_false, Bool.not_true]
  refine ⟨b, 2 + q, 4 + q2, hb, rfl, by omega, by omega, by omega, fun e2 s2 g2 le2 => ?_⟩
  try simp only [ownLst, ownObj, mTake, mOf, fAndV, fOrV, fArgs, fCons, fNil, fVar_0, fVar_s, fUn, fBin, fBool, startE, envOf, slot, gSeq, frzE, gComp, gCompD, wipe_nil, wipe_cons, List.map_cons, List.map_nil, List.cons_append, List.nil_append, List.append_nil, true_and, and_true, List.set_cons_zero, List.set_cons_succ, List.length_cons, List.length_nil, List.replicate_succ, List.replicate_zero, Nat.reduceSub, Nat.reduceAdd, Nat.reduceLT, DEnds.fn, bOf_bl, eq_self, reduceIte, Bool.false_eq_true, gNotV_bl, Bool.not_true, Bool.not_false, g2I_int, g2I0_int, g1I_int, gLen_lst, gLen_tup, gInt_int, gMax2_int, gMin2_int, gIsN_non, gIsN_obj, gIsN_dT, gIsN_dK, gIsN_int, xsOf_lst, tsOf_tup, gIx_t0, gIx_t1, gIx_l0, gIx_l1, gIx_l2, gEqA_int, gEqA_str, gEqA_bl, gTup, gLst, Option.isSome_some, Bool.false_xor, Bool.true_xor, gFor, gNegI, gEqA_no, gIsN_lst, gIsN_tup, gIx_t2, Bool.not_not, dnE, dnL, decide_true, decide_false, gListL_lst, gTupL_lst, gListU_lst, gListU_tup, iOf_int, graphD, edD, optD, pvD, lvD, lvI, trD, Bool.xor_false, Bool.not_false, Bool.not_true]
  by_cases c : (14 : Int) < (m1 : Int)
  · rw [decide_eq_true c]
    try simp only [ownLst, ownObj, mTake, mOf, fAndV, fOrV, fArgs, fCons, fNil, fVar_0, fVar_s, fUn, fBin, fBool, startE, envOf, slot, gSeq, frzE, gComp, gCompD, wipe_nil, wipe_cons, List.map_cons, List.map_nil, List.cons_append, List.nil_append, List.append_nil, true_and, and_true, List.set_cons_zero, List.set_cons_succ, List.length_cons, List.length_nil, List.replicate_succ, List.replicate_zero, Nat.reduceSub, Nat.reduceAdd, Nat.reduceLT, DEnds.fn, bOf_bl, eq_self, reduceIte, Bool.false_eq_true, gNotV_bl, Bool.not_true, Bool.not_false, g2I_int, g2I0_int, g1I_int, gLen_lst, gLen_tup, gInt_int, gMax2_int, gMin2_int, gIsN_non, gIsN_obj, gIsN_dT, gIsN_dK, gIsN_int, xsOf_lst, tsOf_tup, gIx_t0, gIx_t1, gIx_l0, gIx_l1, gIx_l2, gEqA_int, gEqA_str, gEqA_bl, gTup, gLst, Option.isSome_some, Bool.false_xor, Bool.true_xor, gFor, gNegI, gEqA_no, gIsN_lst, gIsN_tup, gIx_t2, Bool.not_not, dnE, dnL, decide_true, decide_false, gListL_lst, gTupL_lst, gListU_lst, gListU_tup, iOf_int, graphD, edD, optD, pvD, lvD, lvI, trD, Bool.xor_false, Bool.not_false, Bool.not_true]
    refine ⟨b, m1, e1, s1, 1, hb, rfl, g1, by decide, le1, ?_⟩
    try simp only [ownLst, ownObj, mTake, mOf, fAndV, fOrV, fArgs, fCons, fNil, fVar_0, fVar_s, fUn, fBin, fBool, startE, envOf, slot, gSeq, frzE, gComp, gCompD, wipe_nil, wipe_cons, List.map_cons, List.map_nil, List.cons_append, List.nil_append, List.append_nil, true_and, and_true, List.set_cons_zero, List.set_cons_succ, List.length_cons, List.length_nil, List.replicate_succ, List.replicate_zero, Nat.reduceSub, Nat.reduceAdd, Nat.reduceLT, DEnds.fn, bOf_bl, eq_self, reduceIte, Bool.false_eq_true, gNotV_bl, Bool.not_true, Bool.not_false, g2I_int, g2I0_int, g1I_int, gLen_lst, gLen_tup, gInt_int, gMax2_int, gMin2_int, gIsN_non, gIsN_obj, gIsN_dT, gIsN_dK, gIsN_int, xsOf_lst, tsOf_tup, gIx_t0, gIx_t1, gIx_l0, gIx_l1, gIx_l2, gEqA_int, gEqA_str, gEqA_bl, gTup, gLst, Option.isSome_some, Bool.false_xor, Bool.true_xor, gFor, gNegI, gEqA_no, gIsN_lst, gIsN_tup, gIx_t2, Bool.not_not, dnE, dnL, decide_true, decide_false, gListL_lst, gTupL_lst, gListU_lst, gListU_tup, iOf_int, graphD, edD, optD, pvD, lvD, lvI, trD, Bool.xor_false, Bool.not_false, Bool.not_true]
    exact ⟨b, 2 + q, e2, s2, 2, hb, rfl, g2, by decide, by omega, rfl⟩
  · rw [decide_eq_false c]
    try simp only [ownLst, ownObj, mTake, mOf, fAndV, fOrV, fArgs, fCons, fNil, fVar_0, fVar_s, fUn, fBin, fBool, startE, envOf, slot, gSeq, frzE, gComp, gCompD, wipe_nil, wipe_cons, List.map_cons, List.map_nil, List.cons_append, List.nil_append, List.append_nil, true_and, and_true, List.set_cons_zero, List.set_cons_succ, List.length_cons, List.length_nil, List.replicate_succ, List.replicate_zero, Nat.reduceSub, Nat.reduceAdd, Nat.reduceLT, DEnds.fn, bOf_bl, eq_self, reduceIte, Bool.false_eq_true, gNotV_bl, Bool.not_true, Bool.not_false, g2I_int, g2I0_int, g1I_int, gLen_lst, gLen_tup, gInt_int, gMax2_int, gMin2_int, gIsN_non, gIsN_obj, gIsN_dT, gIsN_dK, gIsN_int, xsOf_lst, tsOf_tup, gIx_t0, gIx_t1, gIx_l0, gIx_l1, gIx_l2, gEqA_int, gEqA_str, gEqA_bl, gTup, gLst, Option.isSome_some, Bool.false_xor, Bool.true_xor, gFor, gNegI, gEqA_no, gIsN_lst, gIsN_tup, gIx_t2, Bool.not_not, dnE, dnL, decide_true, decide_false, gListL_lst, gTupL_lst, gListU_lst, gListU_tup, iOf_int, graphD, edD, optD, pvD, lvD, lvI, trD, Bool.xor_false, Bool.not_false, Bool.not_true]
    refine ⟨by decide, ?_⟩
    refine forD_go (fun xs ρ => (∀ x ∈ xs, x = graphD m1 e1 s1 ∨ x = graphD (2 + q) e2 s2) ∧ ∃ v4 : Option (Nat × D), ρ = [some (0, .raw (.ref a)), some (0, .raw (.ref b)), some (0, graphD m1 e1 s1), some (0, graphD (2 + q) e2 s2), v4]) ?_ ?_ _ _ ⟨fun x hx => ?_, none, rfl⟩
    · rintro x r ρ ⟨hx, v4, rfl⟩ N hN
      have hr : ∀ x ∈ r, x = graphD m1 e1 s1 ∨ x = graphD (2 + q) e2 s2 := fun y hy => hx y (List.mem_cons_of_mem _ hy)
      refine ⟨_, rfl, ?_⟩
      rcases hx x List.mem_cons_self with rfl | rfl
      · try simp only [ownLst, ownObj, mTake, mOf, fAndV, fOrV, fArgs, fCons, fNil, fVar_0, fVar_s, fUn, fBin, fBool, startE, envOf, slot, gSeq, frzE, gComp, gCompD, wipe_nil, wipe_cons, List.map_cons, List.map_nil, List.cons_append, List.nil_append, List.append_nil, true_and, and_true, List.set_cons_zero, List.set_cons_succ, List.length_cons, List.length_nil, List.replicate_succ, List.replicate_zero, Nat.reduceSub, Nat.reduceAdd, Nat.reduceLT, DEnds.fn, bOf_bl, eq_self, reduceIte, Bool.false_eq_true, gNotV_bl, Bool.not_true, Bool.not_false, g2I_int, g2I0_int, g1I_int, gLen_lst, gLen_tup, gInt_int, gMax2_int, gMin2_int, gIsN_non, gIsN_obj, gIsN_dT, gIsN_dK, gIsN_int, xsOf_lst, tsOf_tup, gIx_t0, gIx_t1, gIx_l0, gIx_l1, gIx_l2, gEqA_int, gEqA_str, gEqA_bl, gTup, gLst, Option.isSome_some, Bool.false_xor, Bool.true_xor, gFor, gNegI, gEqA_no, gIsN_lst, gIsN_tup, gIx_t2, Bool.not_not, dnE, dnL, decide_true, decide_false, gListL_lst, gTupL_lst, gListU_lst, gListU_tup, iOf_int, graphD, edD, optD, pvD, lvD, lvI, trD, Bool.xor_false, Bool.not_false, Bool.not_true]
        refine ⟨b, m1, e1, s1, 2, hb, rfl, g1, by decide, le1, ?_⟩
        try simp only [ownLst, ownObj, mTake, mOf, fAndV, fOrV, fArgs, fCons, fNil, fVar_0, fVar_s, fUn, fBin, fBool, startE, envOf, slot, gSeq, frzE, gComp, gCompD, wipe_nil, wipe_cons, List.map_cons, List.map_nil, List.cons_append, List.nil_append, List.append_nil, true_and, and_true, List.set_cons_zero, List.set_cons_succ, List.length_cons, List.length_nil, List.replicate_succ, List.replicate_zero, Nat.reduceSub, Nat.reduceAdd, Nat.reduceLT, DEnds.fn, bOf_bl, eq_self, reduceIte, Bool.false_eq_true, gNotV_bl, Bool.not_true, Bool.not_false, g2I_int, g2I0_int, g1I_int, gLen_lst, gLen_tup, gInt_int, gMax2_int, gMin2_int, gIsN_non, gIsN_obj, gIsN_dT, gIsN_dK, gIsN_int, xsOf_lst, tsOf_tup, gIx_t0, gIx_t1, gIx_l0, gIx_l1, gIx_l2, gEqA_int, gEqA_str, gEqA_bl, gTup, gLst, Option.isSome_some, Bool.false_xor, Bool.true_xor, gFor, gNegI, gEqA_no, gIsN_lst, gIsN_tup, gIx_t2, Bool.not_not, dnE, dnL, decide_true, decide_false, gListL_lst, gTupL_lst, gListU_lst, gListU_tup, iOf_int, graphD, edD, optD, pvD, lvD, lvI, trD, Bool.xor_false, Bool.not_false, Bool.not_true]
        exact hN _ ⟨hr, _, rfl⟩
      · try simp only [ownLst, ownObj, mTake, mOf, fAndV, fOrV, fArgs, fCons, fNil, fVar_0, fVar_s, fUn, fBin, fBool, startE, envOf, slot, gSeq, frzE, gComp, gCompD, wipe_nil, wipe_cons, List.map_cons, List.map_nil, List.cons_append, List.nil_append, List.append_nil, true_and, and_true, List.set_cons_zero, List.set_cons_succ, List.length_cons, List.length_nil, List.replicate_succ, List.replicate_zero, Nat.reduceSub, Nat.reduceAdd, Nat.reduceLT, DEnds.fn, bOf_bl, eq_self, reduceIte, Bool.false_eq_true, gNotV_bl, Bool.not_true, Bool.not_false, g2I_int, g2I0_int, g1I_int, gLen_lst, gLen_tup, gInt_int, gMax2_int, gMin2_int, gIsN_non, gIsN_obj, gIsN_dT, gIsN_dK, gIsN_int, xsOf_lst, tsOf_tup, gIx_t0, gIx_t1, gIx_l0, gIx_l1, gIx_l2, gEqA_int, gEqA_str, gEqA_bl, gTup, gLst, Option.isSome_some, Bool.false_xor, Bool.true_xor, gFor, gNegI, gEqA_no, gIsN_lst, gIsN_tup, gIx_t2, Bool.not_not, dnE, dnL, decide_true, decide_false, gListL_lst, gTupL_lst, gListU_lst, gListU_tup, iOf_int, graphD, edD, optD, pvD, lvD, lvI, trD, Bool.xor_false, Bool.not_false, Bool.not_true]
        refine ⟨b, 2 + q, e2, s2, 2, hb, rfl, g2, by decide, by omega, ?_⟩
        try simp only [ownLst, ownObj, mTake, mOf, fAndV, fOrV, fArgs, fCons, fNil, fVar_0, fVar_s, fUn, fBin, fBool, startE, envOf, slot, gSeq, frzE, gComp, gCompD, wipe_nil, wipe_cons, List.map_cons, List.map_nil, List.cons_append, List.nil_append, List.append_nil, true_and, and_true, List.set_cons_zero, List.set_cons_succ, List.length_cons, List.length_nil, List.replicate_succ, List.replicate_zero, Nat.reduceSub, Nat.reduceAdd, Nat.reduceLT, DEnds.fn, bOf_bl, eq_self, reduceIte, Bool.false_eq_true, gNotV_bl, Bool.not_true, Bool.not_false, g2I_int, g2I0_int, g1I_int, gLen_lst, gLen_tup, gInt_int, gMax2_int, gMin2_int, gIsN_non, gIsN_obj, gIsN_dT, gIsN_dK, gIsN_int, xsOf_lst, tsOf_tup, gIx_t0, gIx_t1, gIx_l0, gIx_l1, gIx_l2, gEqA_int, gEqA_str, gEqA_bl, gTup, gLst, Option.isSome_some, Bool.false_xor, Bool.true_xor, gFor, gNegI, gEqA_no, gIsN_lst, gIsN_tup, gIx_t2, Bool.not_not, dnE, dnL, decide_true, decide_false, gListL_lst, gTupL_lst, gListU_lst, gListU_tup, iOf_int, graphD, edD, optD, pvD, lvD, lvI, trD, Bool.xor_false, Bool.not_false, Bool.not_true]
        exact hN _ ⟨hr, _, rfl⟩
    · rintro ρ ⟨_, v4, rfl⟩
      try simp only [ownLst, ownObj, mTake, mOf, fAndV, fOrV, fArgs, fCons, fNil, fVar_0, fVar_s, fUn, fBin, fBool, startE, envOf, slot, gSeq, frzE, gComp, gCompD, wipe_nil, wipe_cons, List.map_cons, List.map_nil, List.cons_append, List.nil_append, List.append_nil, true_and, and_true, List.set_cons_zero, List.set_cons_succ, List.length_cons, List.length_nil, List.replicate_succ, List.replicate_zero, Nat.reduceSub, Nat.reduceAdd, Nat.reduceLT, DEnds.fn, bOf_bl, eq_self, reduceIte, Bool.false_eq_true, gNotV_bl, Bool.not_true, Bool.not_false, g2I_int, g2I0_int, g1I_int, gLen_lst, gLen_tup, gInt_int, gMax2_int, gMin2_int, gIsN_non, gIsN_obj, gIsN_dT, gIsN_dK, gIsN_int, xsOf_lst, tsOf_tup, gIx_t0, gIx_t1, gIx_l0, gIx_l1, gIx_l2, gEqA_int, gEqA_str, gEqA_bl, gTup, gLst, Option.isSome_some, Bool.false_xor, Bool.true_xor, gFor, gNegI, gEqA_no, gIsN_lst, gIsN_tup, gIx_t2, Bool.not_not, dnE, dnL, decide_true, decide_false, gListL_lst, gTupL_lst, gListU_lst, gListU_tup, iOf_int, graphD, edD, optD, pvD, lvD, lvI, trD, Bool.xor_false, Bool.not_false, Bool.not_true]
      refine ⟨b, m1, e1, s1, hb, rfl, g1, le1, ?_⟩
      try simp only [ownLst, ownObj, mTake, mOf, fAndV, fOrV, fArgs, fCons, fNil, fVar_0, fVar_s, fUn, fBin, fBool, startE, envOf, slot, gSeq, frzE, gComp, gCompD, wipe_nil, wipe_cons, List.map_cons, List.map_nil, List.cons_append, List.nil_append, List.append_nil, true_and, and_true, List.set_cons_zero, List.set_cons_succ, List.length_cons, List.length_nil, List.replicate_succ, List.replicate_zero, Nat.reduceSub, Nat.reduceAdd, Nat.reduceLT, DEnds.fn, bOf_bl, eq_self, reduceIte, Bool.false_eq_true, gNotV_bl, Bool.not_true, Bool.not_false, g2I_int, g2I0_int, g1I_int, gLen_lst, gLen_tup, gInt_int, gMax2_int, gMin2_int, gIsN_non, gIsN_obj, gIsN_dT, gIsN_dK, gIsN_int, xsOf_lst, tsOf_tup, gIx_t0, gIx_t1, gIx_l0, gIx_l1, gIx_l2, gEqA_int, gEqA_str, gEqA_bl, gTup, gLst, Option.isSome_some, Bool.false_xor, Bool.true_xor, gFor, gNegI, gEqA_no, gIsN_lst, gIsN_tup, gIx_t2, Bool.not_not, dnE, dnL, decide_true, decide_false, gListL_lst, gTupL_lst, gListU_lst, gListU_tup, iOf_int, graphD, edD, optD, pvD, lvD, lvI, trD, Bool.xor_false, Bool.not_false, Bool.not_true]
      exact ⟨b, 2 + q, e2, s2, hb, rfl, g2, by omega, rfl⟩
    · simp only [List.mem_cons, List.not_mem_nil, or_false] at hx
      rcases hx with rfl | rfl | rfl
      · exact .inl rfl
      · exact .inr rfl
      · exact .inl rfl
end
end GK

namespace GK
open PySem PySem.Spec PyProof.Rows L2
open N2
theorem all_mk {l : PySem.W.OpenLaw} {w : World} {K : PySem.W.Frag} {h : Heap} {mg : Str → Option Value} {fa f_ring_back f_ring_among f_prices_or_ring f_edges_leaving f_next_layer f_closed_walk f_short_ring f_law_bag f_law_draw f_law_ends f_law_small f_law_round f_law_graph f_law_integers f_law_ring f_law_row f_law_fewest f_law_right f_law_asked f_law_looped f_law : Addr} (X : K.In h) (G : h.Ns mainGlobals mg) (hfa : mg "law" = some (.ref fa)) {od_ring_back an_ring_back od_ring_among an_ring_among od_prices_or_ring an_prices_or_ring od_edges_leaving an_edges_leaving od_next_layer an_next_layer od_closed_walk an_closed_walk od_short_ring an_short_ring od_law_bag an_law_bag od_law_draw an_law_draw od_law_ends an_law_ends od_law_small an_law_small od_law_round an_law_round od_law_graph an_law_graph od_law_integers an_law_integers od_law_ring an_law_ring od_law_row an_law_row od_law_fewest an_law_fewest od_law_right an_law_right od_law_asked an_law_asked od_law_looped an_law_looped od_law an_law : Option Addr} {sl_ring_back sl_ring_among sl_prices_or_ring sl_edges_leaving sl_next_layer sl_closed_walk sl_short_ring sl_law_bag sl_law_draw sl_law_ends sl_law_small sl_law_round sl_law_graph sl_law_integers sl_law_ring sl_law_row sl_law_fewest sl_law_right sl_law_asked sl_law_looped sl_law : Array (Option Value)} {oc_ring_back kV_ring_back dc_ring_back pm_ring_back cd_ring_back ct_ring_back oc_ring_among kV_ring_among dc_ring_among pm_ring_among cd_ring_among ct_ring_among oc_prices_or_ring kV_prices_or_ring dc_prices_or_ring pm_prices_or_ring cd_prices_or_ring ct_prices_or_ring oc_edges_leaving kV_edges_leaving dc_edges_leaving pm_edges_leaving cd_edges_leaving ct_edges_leaving oc_next_layer kV_next_layer dc_next_layer pm_next_layer cd_next_layer ct_next_layer oc_closed_walk kV_closed_walk dc_closed_walk pm_closed_walk cd_closed_walk ct_closed_walk oc_short_ring kV_short_ring dc_short_ring pm_short_ring cd_short_ring ct_short_ring oc_law_bag kV_law_bag dc_law_bag pm_law_bag cd_law_bag ct_law_bag oc_law_draw kV_law_draw dc_law_draw pm_law_draw cd_law_draw ct_law_draw oc_law_ends kV_law_ends dc_law_ends pm_law_ends cd_law_ends ct_law_ends oc_law_small kV_law_small dc_law_small pm_law_small cd_law_small ct_law_small oc_law_round kV_law_round dc_law_round pm_law_round cd_law_round ct_law_round oc_law_graph kV_law_graph dc_law_graph pm_law_graph cd_law_graph ct_law_graph oc_law_integers kV_law_integers dc_law_integers pm_law_integers cd_law_integers ct_law_integers oc_law_ring kV_law_ring dc_law_ring pm_law_ring cd_law_ring ct_law_ring oc_law_row kV_law_row dc_law_row pm_law_row cd_law_row ct_law_row oc_law_fewest kV_law_fewest dc_law_fewest pm_law_fewest cd_law_fewest ct_law_fewest oc_law_right kV_law_right dc_law_right pm_law_right cd_law_right ct_law_right oc_law_asked kV_law_asked dc_law_asked pm_law_asked cd_law_asked ct_law_asked oc_law_looped kV_law_looped dc_law_looped pm_law_looped cd_law_looped ct_law_looped oc_law kV_law dc_law pm_law cd_law ct_law : Value}
    (a_ring_back : PySem.W.nsIn K mainGlobals "ring_back" = some (some (.ref f_ring_back)))
    (l_ring_back : K.lookup f_ring_back = some ⟨oc_ring_back, od_ring_back, .func (PySem.W.fnOf "ring_back" "ring_back" (defArgs s_ring_back) (defBody s_ring_back) (defScope s_ring_back) .none kV_ring_back dc_ring_back pm_ring_back an_ring_back cd_ring_back ct_ring_back), sl_ring_back⟩) (c_ring_back_ : PySem.W.codeIn K cd_ring_back "ring_back" = true) (k_ring_back : PySem.W.keepIn K (.ref f_ring_back) = true)
    (a_ring_among : PySem.W.nsIn K mainGlobals "ring_among" = some (some (.ref f_ring_among)))
    (l_ring_among : K.lookup f_ring_among = some ⟨oc_ring_among, od_ring_among, .func (PySem.W.fnOf "ring_among" "ring_among" (defArgs s_ring_among) (defBody s_ring_among) (defScope s_ring_among) .none kV_ring_among dc_ring_among pm_ring_among an_ring_among cd_ring_among ct_ring_among), sl_ring_among⟩) (c_ring_among_ : PySem.W.codeIn K cd_ring_among "ring_among" = true) (k_ring_among : PySem.W.keepIn K (.ref f_ring_among) = true)
    (a_prices_or_ring : PySem.W.nsIn K mainGlobals "prices_or_ring" = some (some (.ref f_prices_or_ring)))
    (l_prices_or_ring : K.lookup f_prices_or_ring = some ⟨oc_prices_or_ring, od_prices_or_ring, .func (PySem.W.fnOf "prices_or_ring" "prices_or_ring" (defArgs s_prices_or_ring) (defBody s_prices_or_ring) (defScope s_prices_or_ring) .none kV_prices_or_ring dc_prices_or_ring pm_prices_or_ring an_prices_or_ring cd_prices_or_ring ct_prices_or_ring), sl_prices_or_ring⟩) (c_prices_or_ring_ : PySem.W.codeIn K cd_prices_or_ring "prices_or_ring" = true) (k_prices_or_ring : PySem.W.keepIn K (.ref f_prices_or_ring) = true)
    (a_edges_leaving : PySem.W.nsIn K mainGlobals "edges_leaving" = some (some (.ref f_edges_leaving)))
    (l_edges_leaving : K.lookup f_edges_leaving = some ⟨oc_edges_leaving, od_edges_leaving, .func (PySem.W.fnOf "edges_leaving" "edges_leaving" (defArgs s_edges_leaving) (defBody s_edges_leaving) (defScope s_edges_leaving) .none kV_edges_leaving dc_edges_leaving pm_edges_leaving an_edges_leaving cd_edges_leaving ct_edges_leaving), sl_edges_leaving⟩) (c_edges_leaving_ : PySem.W.codeIn K cd_edges_leaving "edges_leaving" = true) (k_edges_leaving : PySem.W.keepIn K (.ref f_edges_leaving) = true)
    (a_next_layer : PySem.W.nsIn K mainGlobals "next_layer" = some (some (.ref f_next_layer)))
    (l_next_layer : K.lookup f_next_layer = some ⟨oc_next_layer, od_next_layer, .func (PySem.W.fnOf "next_layer" "next_layer" (defArgs s_next_layer) (defBody s_next_layer) (defScope s_next_layer) .none kV_next_layer dc_next_layer pm_next_layer an_next_layer cd_next_layer ct_next_layer), sl_next_layer⟩) (c_next_layer_ : PySem.W.codeIn K cd_next_layer "next_layer" = true) (k_next_layer : PySem.W.keepIn K (.ref f_next_layer) = true)
    (a_closed_walk : PySem.W.nsIn K mainGlobals "closed_walk" = some (some (.ref f_closed_walk)))
    (l_closed_walk : K.lookup f_closed_walk = some ⟨oc_closed_walk, od_closed_walk, .func (PySem.W.fnOf "closed_walk" "closed_walk" (defArgs s_closed_walk) (defBody s_closed_walk) (defScope s_closed_walk) .none kV_closed_walk dc_closed_walk pm_closed_walk an_closed_walk cd_closed_walk ct_closed_walk), sl_closed_walk⟩) (c_closed_walk_ : PySem.W.codeIn K cd_closed_walk "closed_walk" = true) (k_closed_walk : PySem.W.keepIn K (.ref f_closed_walk) = true)
    (a_short_ring : PySem.W.nsIn K mainGlobals "short_ring" = some (some (.ref f_short_ring)))
    (l_short_ring : K.lookup f_short_ring = some ⟨oc_short_ring, od_short_ring, .func (PySem.W.fnOf "short_ring" "short_ring" (defArgs s_short_ring) (defBody s_short_ring) (defScope s_short_ring) .none kV_short_ring dc_short_ring pm_short_ring an_short_ring cd_short_ring ct_short_ring), sl_short_ring⟩) (c_short_ring_ : PySem.W.codeIn K cd_short_ring "short_ring" = true) (k_short_ring : PySem.W.keepIn K (.ref f_short_ring) = true)
    (a_law_bag : PySem.W.nsIn K mainGlobals "_law_bag" = some (some (.ref f_law_bag)))
    (l_law_bag : K.lookup f_law_bag = some ⟨oc_law_bag, od_law_bag, .func (PySem.W.fnOf "_law_bag" "_law_bag" (defArgs sBag) (defBody sBag) (defScope sBag) .none kV_law_bag dc_law_bag pm_law_bag an_law_bag cd_law_bag ct_law_bag), sl_law_bag⟩) (c_law_bag_ : PySem.W.codeIn K cd_law_bag "_law_bag" = true) (k_law_bag : PySem.W.keepIn K (.ref f_law_bag) = true)
    (a_law_draw : PySem.W.nsIn K mainGlobals "_law_draw" = some (some (.ref f_law_draw)))
    (l_law_draw : K.lookup f_law_draw = some ⟨oc_law_draw, od_law_draw, .func (PySem.W.fnOf "_law_draw" "_law_draw" (defArgs sDraw) (defBody sDraw) (defScope sDraw) .none kV_law_draw dc_law_draw pm_law_draw an_law_draw cd_law_draw ct_law_draw), sl_law_draw⟩) (c_law_draw_ : PySem.W.codeIn K cd_law_draw "_law_draw" = true) (k_law_draw : PySem.W.keepIn K (.ref f_law_draw) = true)
    (a_law_ends : PySem.W.nsIn K mainGlobals "_law_ends" = some (some (.ref f_law_ends)))
    (l_law_ends : K.lookup f_law_ends = some ⟨oc_law_ends, od_law_ends, .func (PySem.W.fnOf "_law_ends" "_law_ends" (defArgs s_law_ends) (defBody s_law_ends) (defScope s_law_ends) .none kV_law_ends dc_law_ends pm_law_ends an_law_ends cd_law_ends ct_law_ends), sl_law_ends⟩) (c_law_ends_ : PySem.W.codeIn K cd_law_ends "_law_ends" = true) (k_law_ends : PySem.W.keepIn K (.ref f_law_ends) = true)
    (a_law_small : PySem.W.nsIn K mainGlobals "_law_small" = some (some (.ref f_law_small)))
    (l_law_small : K.lookup f_law_small = some ⟨oc_law_small, od_law_small, .func (PySem.W.fnOf "_law_small" "_law_small" (defArgs s_law_small) (defBody s_law_small) (defScope s_law_small) .none kV_law_small dc_law_small pm_law_small an_law_small cd_law_small ct_law_small), sl_law_small⟩) (c_law_small_ : PySem.W.codeIn K cd_law_small "_law_small" = true) (k_law_small : PySem.W.keepIn K (.ref f_law_small) = true)
    (a_law_round : PySem.W.nsIn K mainGlobals "_law_round" = some (some (.ref f_law_round)))
    (l_law_round : K.lookup f_law_round = some ⟨oc_law_round, od_law_round, .func (PySem.W.fnOf "_law_round" "_law_round" (defArgs s_law_round) (defBody s_law_round) (defScope s_law_round) .none kV_law_round dc_law_round pm_law_round an_law_round cd_law_round ct_law_round), sl_law_round⟩) (c_law_round_ : PySem.W.codeIn K cd_law_round "_law_round" = true) (k_law_round : PySem.W.keepIn K (.ref f_law_round) = true)
    (a_law_graph : PySem.W.nsIn K mainGlobals "_law_graph" = some (some (.ref f_law_graph)))
    (l_law_graph : K.lookup f_law_graph = some ⟨oc_law_graph, od_law_graph, .func (PySem.W.fnOf "_law_graph" "_law_graph" (defArgs s_law_graph) (defBody s_law_graph) (defScope s_law_graph) .none kV_law_graph dc_law_graph pm_law_graph an_law_graph cd_law_graph ct_law_graph), sl_law_graph⟩) (c_law_graph_ : PySem.W.codeIn K cd_law_graph "_law_graph" = true) (k_law_graph : PySem.W.keepIn K (.ref f_law_graph) = true)
    (a_law_integers : PySem.W.nsIn K mainGlobals "_law_integers" = some (some (.ref f_law_integers)))
    (l_law_integers : K.lookup f_law_integers = some ⟨oc_law_integers, od_law_integers, .func (PySem.W.fnOf "_law_integers" "_law_integers" (defArgs s_law_integers) (defBody s_law_integers) (defScope s_law_integers) .none kV_law_integers dc_law_integers pm_law_integers an_law_integers cd_law_integers ct_law_integers), sl_law_integers⟩) (c_law_integers_ : PySem.W.codeIn K cd_law_integers "_law_integers" = true) (k_law_integers : PySem.W.keepIn K (.ref f_law_integers) = true)
    (a_law_ring : PySem.W.nsIn K mainGlobals "_law_ring" = some (some (.ref f_law_ring)))
    (l_law_ring : K.lookup f_law_ring = some ⟨oc_law_ring, od_law_ring, .func (PySem.W.fnOf "_law_ring" "_law_ring" (defArgs s_law_ring) (defBody s_law_ring) (defScope s_law_ring) .none kV_law_ring dc_law_ring pm_law_ring an_law_ring cd_law_ring ct_law_ring), sl_law_ring⟩) (c_law_ring_ : PySem.W.codeIn K cd_law_ring "_law_ring" = true) (k_law_ring : PySem.W.keepIn K (.ref f_law_ring) = true)
    (a_law_row : PySem.W.nsIn K mainGlobals "_law_row" = some (some (.ref f_law_row)))
    (l_law_row : K.lookup f_law_row = some ⟨oc_law_row, od_law_row, .func (PySem.W.fnOf "_law_row" "_law_row" (defArgs s_law_row) (defBody s_law_row) (defScope s_law_row) .none kV_law_row dc_law_row pm_law_row an_law_row cd_law_row ct_law_row), sl_law_row⟩) (c_law_row_ : PySem.W.codeIn K cd_law_row "_law_row" = true) (k_law_row : PySem.W.keepIn K (.ref f_law_row) = true)
    (a_law_fewest : PySem.W.nsIn K mainGlobals "_law_fewest" = some (some (.ref f_law_fewest)))
    (l_law_fewest : K.lookup f_law_fewest = some ⟨oc_law_fewest, od_law_fewest, .func (PySem.W.fnOf "_law_fewest" "_law_fewest" (defArgs s_law_fewest) (defBody s_law_fewest) (defScope s_law_fewest) .none kV_law_fewest dc_law_fewest pm_law_fewest an_law_fewest cd_law_fewest ct_law_fewest), sl_law_fewest⟩) (c_law_fewest_ : PySem.W.codeIn K cd_law_fewest "_law_fewest" = true) (k_law_fewest : PySem.W.keepIn K (.ref f_law_fewest) = true)
    (a_law_right : PySem.W.nsIn K mainGlobals "_law_right" = some (some (.ref f_law_right)))
    (l_law_right : K.lookup f_law_right = some ⟨oc_law_right, od_law_right, .func (PySem.W.fnOf "_law_right" "_law_right" (defArgs s_law_right) (defBody s_law_right) (defScope s_law_right) .none kV_law_right dc_law_right pm_law_right an_law_right cd_law_right ct_law_right), sl_law_right⟩) (c_law_right_ : PySem.W.codeIn K cd_law_right "_law_right" = true) (k_law_right : PySem.W.keepIn K (.ref f_law_right) = true)
    (a_law_asked : PySem.W.nsIn K mainGlobals "_law_asked" = some (some (.ref f_law_asked)))
    (l_law_asked : K.lookup f_law_asked = some ⟨oc_law_asked, od_law_asked, .func (PySem.W.fnOf "_law_asked" "_law_asked" (defArgs s_law_asked) (defBody s_law_asked) (defScope s_law_asked) .none kV_law_asked dc_law_asked pm_law_asked an_law_asked cd_law_asked ct_law_asked), sl_law_asked⟩) (c_law_asked_ : PySem.W.codeIn K cd_law_asked "_law_asked" = true) (k_law_asked : PySem.W.keepIn K (.ref f_law_asked) = true)
    (a_law_looped : PySem.W.nsIn K mainGlobals "_law_looped" = some (some (.ref f_law_looped)))
    (l_law_looped : K.lookup f_law_looped = some ⟨oc_law_looped, od_law_looped, .func (PySem.W.fnOf "_law_looped" "_law_looped" (defArgs s_law_looped) (defBody s_law_looped) (defScope s_law_looped) .none kV_law_looped dc_law_looped pm_law_looped an_law_looped cd_law_looped ct_law_looped), sl_law_looped⟩) (c_law_looped_ : PySem.W.codeIn K cd_law_looped "_law_looped" = true) (k_law_looped : PySem.W.keepIn K (.ref f_law_looped) = true)
    (a_law : PySem.W.nsIn K mainGlobals "law" = some (some (.ref f_law)))
    (l_law : K.lookup f_law = some ⟨oc_law, od_law, .func (PySem.W.fnOf "law" "law" (defArgs s_law) (defBody s_law) (defScope s_law) .none kV_law dc_law pm_law an_law cd_law ct_law), sl_law⟩) (c_law_ : PySem.W.codeIn K cd_law "law" = true) (k_law : PySem.W.keepIn K (.ref f_law) = true)
    (z_bool_ : PySem.W.nsIn K mainGlobals "bool" = some none)
    (z_enumerate_ : PySem.W.nsIn K mainGlobals "enumerate" = some none)
    (z_int_ : PySem.W.nsIn K mainGlobals "int" = some none)
    (z_isinstance_ : PySem.W.nsIn K mainGlobals "isinstance" = some none)
    (z_len_ : PySem.W.nsIn K mainGlobals "len" = some none)
    (z_list_ : PySem.W.nsIn K mainGlobals "list" = some none)
    (z_max_ : PySem.W.nsIn K mainGlobals "max" = some none)
    (z_range_ : PySem.W.nsIn K mainGlobals "range" = some none)
    (z_sum_ : PySem.W.nsIn K mainGlobals "sum" = some none)
    (z_tuple_ : PySem.W.nsIn K mainGlobals "tuple" = some none)
    : ∃ fd : FuncData, (∀ (s : Shared) (v : Value), BindsTo s fd ⟨[v], []⟩ [("script", v)]) ∧ ∀ base : Heap, K.In base → base.Ns mainGlobals mg → FnOk l.prog w K mg base CX0 6 fa fd ["script"] (spLaw K) := by
  have e := hfa.symm.trans (PySem.W.mg_of X G a_law)
  cases e
  have T : Bi mg := ⟨PySem.W.mg_none_of X G z_bool_, PySem.W.mg_none_of X G z_enumerate_, PySem.W.mg_none_of X G z_int_, PySem.W.mg_none_of X G z_isinstance_, PySem.W.mg_none_of X G z_len_, PySem.W.mg_none_of X G z_list_, PySem.W.mg_none_of X G z_max_, PySem.W.mg_none_of X G z_range_, PySem.W.mg_none_of X G z_sum_, PySem.W.mg_none_of X G z_tuple_⟩
  have F_ring_back := fun_mk (st := s_ring_back) l_ring_back c_ring_back_ k_ring_back
  have b_ring_back := F_ring_back.binds (ps := ["edges", "last", "node"]) fun _ _ _ _ _ _ us hl => match us, hl with | [_, _, _], _ => rfl
  have F_ring_among := fun_mk (st := s_ring_among) l_ring_among c_ring_among_ k_ring_among
  have b_ring_among := F_ring_among.binds (ps := ["edges", "last"]) fun _ _ _ _ _ _ us hl => match us, hl with | [_, _], _ => rfl
  have F_prices_or_ring := fun_mk (st := s_prices_or_ring) l_prices_or_ring c_prices_or_ring_ k_prices_or_ring
  have b_prices_or_ring := F_prices_or_ring.binds (ps := ["count", "edges"]) fun _ _ _ _ _ _ us hl => match us, hl with | [_, _], _ => rfl
  have F_edges_leaving := fun_mk (st := s_edges_leaving) l_edges_leaving c_edges_leaving_ k_edges_leaving
  have b_edges_leaving := F_edges_leaving.binds (ps := ["count", "edges", "prices"]) fun _ _ _ _ _ _ us hl => match us, hl with | [_, _, _], _ => rfl
  have F_next_layer := fun_mk (st := s_next_layer) l_next_layer c_next_layer_ k_next_layer
  have b_next_layer := F_next_layer.binds (ps := ["leaving", "layer", "best"]) fun _ _ _ _ _ _ us hl => match us, hl with | [_, _, _], _ => rfl
  have F_closed_walk := fun_mk (st := s_closed_walk) l_closed_walk c_closed_walk_ k_closed_walk
  have b_closed_walk := F_closed_walk.binds (ps := ["edges", "leaving", "start", "size"]) fun _ _ _ _ _ _ us hl => match us, hl with | [_, _, _, _], _ => rfl
  have F_short_ring := fun_mk (st := s_short_ring) l_short_ring c_short_ring_ k_short_ring
  have b_short_ring := F_short_ring.binds (ps := ["count", "edges"]) fun _ _ _ _ _ _ us hl => match us, hl with | [_, _], _ => rfl
  have F_law_bag := fun_mk (st := sBag) l_law_bag c_law_bag_ k_law_bag
  have b_law_bag := F_law_bag.binds (ps := ["script"]) fun _ _ _ _ _ _ us hl => match us, hl with | [_], _ => rfl
  have F_law_draw := fun_mk (st := sDraw) l_law_draw c_law_draw_ k_law_draw
  have b_law_draw := F_law_draw.binds (ps := ["bag", "size"]) fun _ _ _ _ _ _ us hl => match us, hl with | [_, _], _ => rfl
  have F_law_ends := fun_mk (st := s_law_ends) l_law_ends c_law_ends_ k_law_ends
  have b_law_ends := F_law_ends.binds (ps := ["bag", "count", "many"]) fun _ _ _ _ _ _ us hl => match us, hl with | [_, _, _], _ => rfl
  have F_law_small := fun_mk (st := s_law_small) l_law_small c_law_small_ k_law_small
  have b_law_small := F_law_small.binds (ps := ["bag", "count", "many"]) fun _ _ _ _ _ _ us hl => match us, hl with | [_, _, _], _ => rfl
  have F_law_round := fun_mk (st := s_law_round) l_law_round c_law_round_ k_law_round
  have b_law_round := F_law_round.binds (ps := ["bag", "count", "chords"]) fun _ _ _ _ _ _ us hl => match us, hl with | [_, _, _], _ => rfl
  have F_law_graph := fun_mk (st := s_law_graph) l_law_graph c_law_graph_ k_law_graph
  have b_law_graph := F_law_graph.binds (ps := ["bag"]) fun _ _ _ _ _ _ us hl => match us, hl with | [_], _ => rfl
  have F_law_integers := fun_mk (st := s_law_integers) l_law_integers c_law_integers_ k_law_integers
  have b_law_integers := F_law_integers.binds (ps := ["value"]) fun _ _ _ _ _ _ us hl => match us, hl with | [_], _ => rfl
  have F_law_ring := fun_mk (st := s_law_ring) l_law_ring c_law_ring_ k_law_ring
  have b_law_ring := F_law_ring.binds (ps := ["edges", "ring"]) fun _ _ _ _ _ _ us hl => match us, hl with | [_, _], _ => rfl
  have F_law_row := fun_mk (st := s_law_row) l_law_row c_law_row_ k_law_row
  have b_law_row := F_law_row.binds (ps := ["edges", "row"]) fun _ _ _ _ _ _ us hl => match us, hl with | [_, _], _ => rfl
  have F_law_fewest := fun_mk (st := s_law_fewest) l_law_fewest c_law_fewest_ k_law_fewest
  have b_law_fewest := F_law_fewest.binds (ps := ["count", "edges", "starts"]) fun _ _ _ _ _ _ us hl => match us, hl with | [_, _, _], _ => rfl
  have F_law_right := fun_mk (st := s_law_right) l_law_right c_law_right_ k_law_right
  have b_law_right := F_law_right.binds (ps := ["edges", "told", "fewest"]) fun _ _ _ _ _ _ us hl => match us, hl with | [_, _, _], _ => rfl
  have F_law_asked := fun_mk (st := s_law_asked) l_law_asked c_law_asked_ k_law_asked
  have b_law_asked := F_law_asked.binds (ps := ["bag", "graph", "turns"]) fun _ _ _ _ _ _ us hl => match us, hl with | [_, _, _], _ => rfl
  have F_law_looped := fun_mk (st := s_law_looped) l_law_looped c_law_looped_ k_law_looped
  have b_law_looped := F_law_looped.binds (ps := ["bag", "graph"]) fun _ _ _ _ _ _ us hl => match us, hl with | [_, _], _ => rfl
  have F_law := fun_mk (st := s_law) l_law c_law_ k_law
  have b_law := F_law.binds (ps := ["script"]) fun _ _ _ _ _ _ us hl => match us, hl with | [_], _ => rfl
  refine ⟨PySem.W.fnOf "law" "law" (defArgs s_law) (defBody s_law) (defScope s_law) .none kV_law dc_law pm_law an_law cd_law ct_law, fun s v => .of_eq rfl, fun base kin ns => ?_⟩
  have c_law_draw : Cal l.prog w K mg base "_law_draw" 1 ["bag", "size"] (.own 0) [] wDraw := ⟨⟨_, _, [], [], (ok_draw F_law_draw T.int_ T.len_), PySem.W.mg_of X G a_law_draw, k_law_draw, b_law_draw, .nil, fun _ => .nil⟩⟩
  have c_law_row : Cal l.prog w K mg base "_law_row" 1 ["edges", "row"] (.own 0) [] w_law_row := ⟨⟨_, _, [], [], (ok_law_row F_law_row T ), PySem.W.mg_of X G a_law_row, k_law_row, b_law_row, .nil, fun _ => .nil⟩⟩
  have c_law_fewest : Cal l.prog w K mg base "_law_fewest" 2 ["count", "edges", "starts"] (.own 0) [] w_law_fewest := ⟨⟨_, _, [], [], (ok_law_fewest F_law_fewest T c_law_row), PySem.W.mg_of X G a_law_fewest, k_law_fewest, b_law_fewest, .nil, fun _ => .nil⟩⟩
  have c_law_integers : Cal l.prog w K mg base "_law_integers" 1 ["value"] (.own 0) [] w_law_integers := ⟨⟨_, _, [], [], (ok_law_integers F_law_integers T ), PySem.W.mg_of X G a_law_integers, k_law_integers, b_law_integers, .nil, fun _ => .nil⟩⟩
  have c_law_ring : Cal l.prog w K mg base "_law_ring" 1 ["edges", "ring"] (.own 0) [] w_law_ring := ⟨⟨_, _, [], [], (ok_law_ring F_law_ring T ), PySem.W.mg_of X G a_law_ring, k_law_ring, b_law_ring, .nil, fun _ => .nil⟩⟩
  have c_law_right : Cal l.prog w K mg base "_law_right" 2 ["edges", "told", "fewest"] (.own 0) [] w_law_right := ⟨⟨_, _, [], [], (ok_law_right F_law_right T c_law_integers c_law_ring), PySem.W.mg_of X G a_law_right, k_law_right, b_law_right, .nil, fun _ => .nil⟩⟩
  have c_next_layer : Cal l.prog w K mg base "next_layer" 1 ["leaving", "layer", "best"] (.own 1) [] w_next_layer := ⟨⟨_, _, [], [], (ok_next_layer F_next_layer T ), PySem.W.mg_of X G a_next_layer, k_next_layer, b_next_layer, .nil, fun _ => .nil⟩⟩
  have c_closed_walk : Cal l.prog w K mg base "closed_walk" 2 ["edges", "leaving", "start", "size"] (.own 1) [] w_closed_walk := ⟨⟨_, _, [], [], (ok_closed_walk F_closed_walk T c_next_layer), PySem.W.mg_of X G a_closed_walk, k_closed_walk, b_closed_walk, .nil, fun _ => .nil⟩⟩
  have c_edges_leaving : Cal l.prog w K mg base "edges_leaving" 1 ["count", "edges", "prices"] (.own 0) [] w_edges_leaving := ⟨⟨_, _, [], [], (ok_edges_leaving F_edges_leaving T ), PySem.W.mg_of X G a_edges_leaving, k_edges_leaving, b_edges_leaving, .nil, fun _ => .nil⟩⟩
  have c_ring_back : Cal l.prog w K mg base "ring_back" 1 ["edges", "last", "node"] (.own 1) [] w_ring_back := ⟨⟨_, _, [], [], (ok_ring_back F_ring_back T ), PySem.W.mg_of X G a_ring_back, k_ring_back, b_ring_back, .nil, fun _ => .nil⟩⟩
  have c_ring_among : Cal l.prog w K mg base "ring_among" 2 ["edges", "last"] (.own 1) [] w_ring_among := ⟨⟨_, _, [], [], (ok_ring_among F_ring_among T c_ring_back), PySem.W.mg_of X G a_ring_among, k_ring_among, b_ring_among, .nil, fun _ => .nil⟩⟩
  have c_prices_or_ring : Cal l.prog w K mg base "prices_or_ring" 3 ["count", "edges"] (.own 2) [] w_prices_or_ring := ⟨⟨_, _, [], [], (ok_prices_or_ring F_prices_or_ring T c_ring_among), PySem.W.mg_of X G a_prices_or_ring, k_prices_or_ring, b_prices_or_ring, .nil, fun _ => .nil⟩⟩
  have c_short_ring : Cal l.prog w K mg base "short_ring" 4 ["count", "edges"] (.own 1) [] w_short_ring := ⟨⟨_, _, [], [], (ok_short_ring F_short_ring T c_closed_walk c_edges_leaving c_next_layer c_prices_or_ring), PySem.W.mg_of X G a_short_ring, k_short_ring, b_short_ring, .nil, fun _ => .nil⟩⟩
  have c_law_asked : Cal l.prog w K mg base "_law_asked" 5 ["bag", "graph", "turns"] (.own 0) [] w_law_asked := ⟨⟨_, _, [], [], (ok_law_asked F_law_asked T c_law_draw c_law_fewest c_law_right c_short_ring), PySem.W.mg_of X G a_law_asked, k_law_asked, b_law_asked, .nil, fun _ => .nil⟩⟩
  have c_law_round : Cal l.prog w K mg base "_law_round" 2 ["bag", "count", "chords"] (.own 0) [] w_law_round := ⟨⟨_, _, [], [], (ok_law_round F_law_round T c_law_draw), PySem.W.mg_of X G a_law_round, k_law_round, b_law_round, .nil, fun _ => .nil⟩⟩
  have c_law_ends : Cal l.prog w K mg base "_law_ends" 2 ["bag", "count", "many"] (.own 0) [] w_law_ends := ⟨⟨_, _, [], [], (ok_law_ends F_law_ends T c_law_draw), PySem.W.mg_of X G a_law_ends, k_law_ends, b_law_ends, .nil, fun _ => .nil⟩⟩
  have c_law_small : Cal l.prog w K mg base "_law_small" 3 ["bag", "count", "many"] (.own 0) [] w_law_small := ⟨⟨_, _, [], [], (ok_law_small F_law_small T c_law_draw c_law_ends), PySem.W.mg_of X G a_law_small, k_law_small, b_law_small, .nil, fun _ => .nil⟩⟩
  have c_law_graph : Cal l.prog w K mg base "_law_graph" 4 ["bag"] (.own 0) [] w_law_graph := ⟨⟨_, _, [], [], (ok_law_graph F_law_graph T c_law_draw c_law_round c_law_small), PySem.W.mg_of X G a_law_graph, k_law_graph, b_law_graph, .nil, fun _ => .nil⟩⟩
  have c_law_looped : Cal l.prog w K mg base "_law_looped" 5 ["bag", "graph"] (.own 0) [] w_law_looped := ⟨⟨_, _, [], [], (ok_law_looped F_law_looped T c_law_draw c_law_right c_short_ring), PySem.W.mg_of X G a_law_looped, k_law_looped, b_law_looped, .nil, fun _ => .nil⟩⟩
  exact ok_law F_law T (ok_bag F_law_bag T.int_ T.len_ T.list_) (PySem.W.mg_of X G a_law_bag) k_law_bag b_law_bag c_law_asked c_law_draw c_law_graph c_law_looped c_law_round
end GK
namespace GK
open PySem PySem.Spec PyProof.Rows L2
theorem walk {l : PySem.W.OpenLaw} {q : Program} {loose : List Str} {XP : (Str → Option Value) → Heap → Prop} {YP : World → Heap → Prop} {d : DefRec} {K : Params → PySem.W.Frag} (hn : l.most = some 63) (hdf : d.params.defaults = [])
    (hY : ∀ (w : World) (h : Heap), YP w h → (K w.params).In h)
    (F : ∀ (w : World) (mg : Str → Option Value) (fa : Addr) (h : Heap), (K w.params).In h → h.Ns mainGlobals mg → mg d.name = some (.ref fa) →
      ∃ fd : FuncData, (∀ (s : Shared) (u : Value), BindsTo s fd ⟨[u], []⟩ [("script", u)]) ∧ ∀ base : Heap, (K w.params).In base → base.Ns mainGlobals mg → FnOk l.prog w (K w.params) mg base CX0 6 fa fd ["script"] (spLaw (K w.params))) :
    PySem.W.WalkO q loose XP YP l.row.toRowW d [] (fun f vs => PySem.call f vs) :=
  L2.walk_of (n := 63) (k := 6) (x := "script") (CX := fun _ => CX0) (sp := fun w => spLaw (K w.params)) hn (by decide) hdf ⟨rfl, by decide, by decide⟩ hY F (fun _ H a ns hl hO hS => ⟨a, ns, rfl, hS, hl, hO, fun _ => rfl⟩) fun _ _ _ _ _ z => z
end GK
open PySem PySem.W PyProof.Rows in
set_option maxRecDepth 100000 in
set_option maxHeartbeats 0 in
theorem PySem.Challenge.cw_giftskept_k02_shortest_falling_ring_holds : PySem.Challenge.rw_giftskept_k02_shortest_falling_ring.Holds := by
  w_on; o_law; k_head; (case hw => w_witness2)
  k_fill
  refine GK.walk (l := PySem.Challenge.rw_giftskept_k02_shortest_falling_ring) rfl rfl (fun w h Y => PySem.W.kIn_of Y) ?F
  case F =>
    intro w mg fa h KX G hmg
    refine' GK.all_mk KX G hmg ?a_ring_back ?l_ring_back ?c_ring_back_ ?k_ring_back ?a_ring_among ?l_ring_among ?c_ring_among_ ?k_ring_among ?a_prices_or_ring ?l_prices_or_ring ?c_prices_or_ring_ ?k_prices_or_ring ?a_edges_leaving ?l_edges_leaving ?c_edges_leaving_ ?k_edges_leaving ?a_next_layer ?l_next_layer ?c_next_layer_ ?k_next_layer ?a_closed_walk ?l_closed_walk ?c_closed_walk_ ?k_closed_walk ?a_short_ring ?l_short_ring ?c_short_ring_ ?k_short_ring ?a_law_bag ?l_law_bag ?c_law_bag_ ?k_law_bag ?a_law_draw ?l_law_draw ?c_law_draw_ ?k_law_draw ?a_law_ends ?l_law_ends ?c_law_ends_ ?k_law_ends ?a_law_small ?l_law_small ?c_law_small_ ?k_law_small ?a_law_round ?l_law_round ?c_law_round_ ?k_law_round ?a_law_graph ?l_law_graph ?c_law_graph_ ?k_law_graph ?a_law_integers ?l_law_integers ?c_law_integers_ ?k_law_integers ?a_law_ring ?l_law_ring ?c_law_ring_ ?k_law_ring ?a_law_row ?l_law_row ?c_law_row_ ?k_law_row ?a_law_fewest ?l_law_fewest ?c_law_fewest_ ?k_law_fewest ?a_law_right ?l_law_right ?c_law_right_ ?k_law_right ?a_law_asked ?l_law_asked ?c_law_asked_ ?k_law_asked ?a_law_looped ?l_law_looped ?c_law_looped_ ?k_law_looped ?a_law ?l_law ?c_law_ ?k_law ?z_bool_ ?z_enumerate_ ?z_int_ ?z_isinstance_ ?z_len_ ?z_list_ ?z_max_ ?z_range_ ?z_sum_ ?z_tuple_
    (case a_ring_back => k_is)
    (case l_ring_back => k_is)
    (case c_ring_back_ => k_is)
    (case k_ring_back => k_is)
    (case a_ring_among => k_is)
    (case l_ring_among => k_is)
    (case c_ring_among_ => k_is)
    (case k_ring_among => k_is)
    (case a_prices_or_ring => k_is)
    (case l_prices_or_ring => k_is)
    (case c_prices_or_ring_ => k_is)
    (case k_prices_or_ring => k_is)
    (case a_edges_leaving => k_is)
    (case l_edges_leaving => k_is)
    (case c_edges_leaving_ => k_is)
    (case k_edges_leaving => k_is)
    (case a_next_layer => k_is)
    (case l_next_layer => k_is)
    (case c_next_layer_ => k_is)
    (case k_next_layer => k_is)
    (case a_closed_walk => k_is)
    (case l_closed_walk => k_is)
    (case c_closed_walk_ => k_is)
    (case k_closed_walk => k_is)
    (case a_short_ring => k_is)
    (case l_short_ring => k_is)
    (case c_short_ring_ => k_is)
    (case k_short_ring => k_is)
    (case a_law_bag => k_is)
    (case l_law_bag => k_is)
    (case c_law_bag_ => k_is)
    (case k_law_bag => k_is)
    (case a_law_draw => k_is)
    (case l_law_draw => k_is)
    (case c_law_draw_ => k_is)
    (case k_law_draw => k_is)
    (case a_law_ends => k_is)
    (case l_law_ends => k_is)
    (case c_law_ends_ => k_is)
    (case k_law_ends => k_is)
    (case a_law_small => k_is)
    (case l_law_small => k_is)
    (case c_law_small_ => k_is)
    (case k_law_small => k_is)
    (case a_law_round => k_is)
    (case l_law_round => k_is)
    (case c_law_round_ => k_is)
    (case k_law_round => k_is)
    (case a_law_graph => k_is)
    (case l_law_graph => k_is)
    (case c_law_graph_ => k_is)
    (case k_law_graph => k_is)
    (case a_law_integers => k_is)
    (case l_law_integers => k_is)
    (case c_law_integers_ => k_is)
    (case k_law_integers => k_is)
    (case a_law_ring => k_is)
    (case l_law_ring => k_is)
    (case c_law_ring_ => k_is)
    (case k_law_ring => k_is)
    (case a_law_row => k_is)
    (case l_law_row => k_is)
    (case c_law_row_ => k_is)
    (case k_law_row => k_is)
    (case a_law_fewest => k_is)
    (case l_law_fewest => k_is)
    (case c_law_fewest_ => k_is)
    (case k_law_fewest => k_is)
    (case a_law_right => k_is)
    (case l_law_right => k_is)
    (case c_law_right_ => k_is)
    (case k_law_right => k_is)
    (case a_law_asked => k_is)
    (case l_law_asked => k_is)
    (case c_law_asked_ => k_is)
    (case k_law_asked => k_is)
    (case a_law_looped => k_is)
    (case l_law_looped => k_is)
    (case c_law_looped_ => k_is)
    (case k_law_looped => k_is)
    (case a_law => k_is)
    (case l_law => k_is)
    (case c_law_ => k_is)
    (case k_law => k_is)
    (case z_bool_ => k_is)
    (case z_enumerate_ => k_is)
    (case z_int_ => k_is)
    (case z_isinstance_ => k_is)
    (case z_len_ => k_is)
    (case z_list_ => k_is)
    (case z_max_ => k_is)
    (case z_range_ => k_is)
    (case z_sum_ => k_is)
    (case z_tuple_ => k_is)
#print axioms PySem.Challenge.cw_giftskept_k02_shortest_falling_ring_holds

