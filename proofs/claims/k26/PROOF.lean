import PyProof.Rows.All
import Wide.All
import OpenK.AllK
import Wide.FinOn
import HandS.ForMost
import HandS.Flow
import HandS.IsInst
import HandS.Wide
import HandS.TupAny
import HandS.Deep
import HandS.Conv
import HandS.More
import HandS.Text
import KE.SortData
import HandS.DictComp
import HandS.Defaults
import PySem.Challenge.RW_giftskept_k26_cost_of_a_change
set_option Elab.async false
set_option linter.all false
set_option maxRecDepth 100000
set_option maxHeartbeats 4000000
namespace GK
open PySem PySem.Spec PyProof.Rows L2

/-! ### data, read through the heap -/
inductive D where
  | non | bl (b : Bool) | int (i : Int) | str (s : Str) | raw (v : V)
  | tup (xs : List D) | lst (xs : List D) | dK (kvs : List (Key × D)) | dT (kvs : List (List Key × D)) | obj (C : Addr) (fs : List (Str × D))

abbrev Env := List (Option (Nat × D))
/-- a lock is not seen -/
def erO : HO → HO
  | .frz _ u => u
  | u => u
/-- what may be read: all but the bag -/
def rdH (B : List Addr) (H : Hp) : Hp := fun a => if a ∈ B then none else (H a).map erO
def isDct : HO → Prop
  | .dK _ => True
  | .dT _ => True
  | _ => False

/-- nothing -/
def noH : Hp := fun _ => none

mutual
inductive R (K : PySem.W.Frag) (F : Hp) : V → D → Prop where
  | non : R K F .non .non
  | bl (b : Bool) : R K F (.bl b) (.bl b)
  | int (i : Int) : R K F (.int i) (.int i)
  | str (s : Str) : R K F (.str s) (.str s)
  | raw (v : V) : R K F v (.raw v)
  | tup {a : Addr} {vs : List V} {ds : List D} (h : F a = some (.tup vs)) (r : RL K F vs ds) : R K F (.ref a) (.tup ds)
  | lst {a : Addr} {vs : List V} {ds : List D} (h : F a = some (.lst vs)) (r : RL K F vs ds) : R K F (.ref a) (.lst ds)
  | dK {a : Addr} {kvs : List (Key × V)} {es : List (Key × D)} (h : F a = some (.dK kvs)) (hk : kvs.map (·.1) = es.map (·.1)) (r : RL K F (kvs.map (·.2)) (es.map (·.2))) : R K F (.ref a) (.dK es)
  | dT {a : Addr} {kvs : List (List Key × V)} {es : List (List Key × D)} (h : F a = some (.dT kvs)) (hk : kvs.map (·.1) = es.map (·.1)) (r : RL K F (kvs.map (·.2)) (es.map (·.2))) : R K F (.ref a) (.dT es)
  | obj {a C dx : Addr} {fs : List (Str × V)} {es : List (Str × D)} (h : F a = some (.ins C dx fs)) (hk : fs.map (·.1) = es.map (·.1)) (r : RL K F (fs.map (·.2)) (es.map (·.2))) : R K F (.ref a) (.obj C es)
inductive RL (K : PySem.W.Frag) (F : Hp) : List V → List D → Prop where
  | nil : RL K F [] []
  | cons {v : V} {d : D} {vs : List V} {ds : List D} (h : R K F v d) (t : RL K F vs ds) : RL K F (v :: vs) (d :: ds)
end

section
variable {K : PySem.W.Frag} {F F' H H' : Hp} {B : List Addr}
mutual
theorem R.mono {v : V} {d : D} (s : Same F F') : R K F v d → R K F' v d
  | .non => .non
  | .bl b => .bl b
  | .int i => .int i
  | .str x => .str x
  | .raw v => .raw v
  | .tup h r => .tup (s _ _ h) (r.mono s)
  | .lst h r => .lst (s _ _ h) (r.mono s)
  | .dK h hk r => .dK (s _ _ h) hk (r.mono s)
  | .dT h hk r => .dT (s _ _ h) hk (r.mono s)
  | .obj h hk r => .obj (s _ _ h) hk (r.mono s)
theorem RL.mono {vs : List V} {ds : List D} (s : Same F F') : RL K F vs ds → RL K F' vs ds
  | .nil => .nil
  | .cons h t => .cons (h.mono s) (t.mono s)
end
theorem RL.length {vs : List V} {ds : List D} : RL K F vs ds → vs.length = ds.length
  | .nil => rfl
  | .cons _ t => by rw [List.length_cons, List.length_cons, t.length]
theorem RL.append {vs ws : List V} {ds es : List D} : RL K F vs ds → RL K F ws es → RL K F (vs ++ ws) (ds ++ es)
  | .nil, s => s
  | .cons h t, s => .cons h (t.append s)
theorem RL.get {vs : List V} {ds : List D} : RL K F vs ds → ∀ {i : Nat} {d : D}, ds[i]? = some d → ∃ v, vs[i]? = some v ∧ R K F v d
  | .nil, _, _, e => by simp at e
  | .cons h t, 0, d, e => by
    have e' : _ = d := Option.some.inj e
    subst e'
    exact ⟨_, rfl, h⟩
  | .cons h t, i + 1, d, e => t.get (i := i) (d := d) e
theorem RL.getV {vs : List V} {ds : List D} : RL K F vs ds → ∀ {i : Nat} {v : V}, vs[i]? = some v → ∃ d, ds[i]? = some d ∧ R K F v d
  | .nil, _, _, e => by simp at e
  | .cons h t, 0, v, e => by
    have e' : _ = v := Option.some.inj e
    subst e'
    exact ⟨_, rfl, h⟩
  | .cons h t, i + 1, v, e => t.getV (i := i) (v := v) e
theorem RL.drop {vs : List V} {ds : List D} : RL K F vs ds → ∀ n : Nat, RL K F (vs.drop n) (ds.drop n)
  | h, 0 => h
  | .nil, n + 1 => .nil
  | .cons _ t, n + 1 => t.drop n
theorem RL.take {vs : List V} {ds : List D} : RL K F vs ds → ∀ n : Nat, RL K F (vs.take n) (ds.take n)
  | _, 0 => .nil
  | .nil, n + 1 => .nil
  | .cons h t, n + 1 => .cons h (t.take n)
theorem RL.set {vs : List V} {ds : List D} {v : V} {d : D} (q : R K F v d) : RL K F vs ds → ∀ n : Nat, RL K F (vs.set n v) (ds.set n d)
  | .nil, n => .nil
  | .cons h t, 0 => .cons q t
  | .cons h t, n + 1 => .cons h (t.set q n)
theorem RL.reverse {vs : List V} {ds : List D} : RL K F vs ds → RL K F vs.reverse ds.reverse
  | .nil => .nil
  | .cons h t => by
    rw [List.reverse_cons, List.reverse_cons]
    exact t.reverse.append (.cons h .nil)
theorem RL.eraseIdx {vs : List V} {ds : List D} : RL K F vs ds → ∀ n : Nat, RL K F (vs.eraseIdx n) (ds.eraseIdx n)
  | .nil, n => .nil
  | .cons h t, 0 => t
  | .cons h t, n + 1 => .cons h (t.eraseIdx n)
/-- what is read does not name the bag -/
theorem rdH_some {a : Addr} {u : HO} (e : rdH B H a = some u) : a ∉ B ∧ ∃ x, H a = some x ∧ erO x = u := by
  unfold rdH at e
  split at e
  · cases e
  · rename_i hb
    refine ⟨hb, ?_⟩
    cases q : H a with
    | none => rw [q] at e; cases e
    | some x =>
      rw [q] at e
      exact ⟨x, rfl, Option.some.inj e⟩
theorem rdH_of {a : Addr} {x u : HO} (hb : a ∉ B) (e : H a = some x) (n : erO x = u) : rdH B H a = some u := by
  unfold rdH
  rw [if_neg hb, e]
  exact congrArg some n
theorem rd_of_er {a : Addr} {x u : HO} (e : H a = some x) (n : erO x = u) : Rd H a u := by
  cases x <;> first | (left; rw [e]; exact congrArg some n) | skip
  rename_i o w
  right
  have n' : w = u := n
  exact ⟨o, by rw [e, n']⟩
theorem rd_of_rdH {a : Addr} {u : HO} (e : rdH B H a = some u) : Rd H a u := by
  obtain ⟨_, x, h, n⟩ := rdH_some e
  exact rd_of_er h n
theorem sqT_rd {a : Addr} {vs : List V} (h : rdH B H a = some (.tup vs)) : SqT K H a vs := .inl (rd_of_rdH h)
theorem sqL_rd {a : Addr} {vs : List V} (h : rdH B H a = some (.lst vs)) : SqL K H a vs := .inl (rd_of_rdH h)
theorem rdH_same {H H' : Hp} (s : ∀ a o, a ∉ B → H a = some o → H' a = some o) : Same (rdH B H) (rdH B H') := fun a u e => by
  obtain ⟨hb, x, h, n⟩ := rdH_some e
  exact rdH_of hb (s a x hb h) n

/-! ### what is owned -/
/-- the items of a node, each with its own addresses -/
def OwnL (P : V → D → List Addr → Prop) : List V → List D → List Addr → Prop
  | [], [], fp => fp = []
  | v :: vs, d :: ds, fp => ∃ f1 f2, fp = f1 ++ f2 ∧ P v d f1 ∧ OwnL P vs ds f2
  | _, _, _ => False
/-- v stands for d; the first n layers of its lists, dicts and instances are nobody else's, they stand at fp -/
def Own (K : PySem.W.Frag) (F H : Hp) : Nat → V → D → List Addr → Prop
  | 0, v, d, fp => R K F v d ∧ fp = []
  | n + 1, v, .lst ds, fp => ∃ a vs f, v = .ref a ∧ H a = some (.lst vs) ∧ fp = a :: f ∧ OwnL (Own K F H n) vs ds f
  | n + 1, v, .dK es, fp => ∃ a kvs f, v = .ref a ∧ H a = some (.dK kvs) ∧ fp = a :: f ∧ kvs.map (·.1) = es.map (·.1) ∧ OwnL (Own K F H n) (kvs.map (·.2)) (es.map (·.2)) f
  | n + 1, v, .dT es, fp => ∃ a kvs f, v = .ref a ∧ H a = some (.dT kvs) ∧ fp = a :: f ∧ kvs.map (·.1) = es.map (·.1) ∧ OwnL (Own K F H n) (kvs.map (·.2)) (es.map (·.2)) f
  | n + 1, v, .obj C es, fp => ∃ a dx fs f, v = .ref a ∧ H a = some (.ins C dx fs) ∧ fp = a :: f ∧ fs.map (·.1) = es.map (·.1) ∧ OwnL (Own K F H n) (fs.map (·.2)) (es.map (·.2)) f
  | n + 1, v, .tup ds, fp => ∃ a vs, v = .ref a ∧ F a = some (.tup vs) ∧ OwnL (Own K F H n) vs ds fp
  | _ + 1, v, d, fp => R K F v d ∧ fp = []
theorem OwnL.imp {P Q : V → D → List Addr → Prop} : ∀ {vs : List V} {ds : List D} {fp : List Addr}, OwnL P vs ds fp → (∀ v d f, (∀ a ∈ f, a ∈ fp) → P v d f → Q v d f) → OwnL Q vs ds fp
  | [], [], _, h, _ => h
  | v :: vs, d :: ds, fp, ⟨f1, f2, e, h, t⟩, k => ⟨f1, f2, e, k v d f1 (fun a ha => by rw [e]; exact List.mem_append_left _ ha) h,
      OwnL.imp t fun v d f hf => k v d f fun a ha => by rw [e]; exact List.mem_append_right _ (hf a ha)⟩
/-- what is owned stays while its addresses stay -/
theorem Own.mono (sF : Same F F') : ∀ {n : Nat} {v : V} {d : D} {fp : List Addr}, (∀ a ∈ fp, ∀ o, H a = some o → H' a = some o) → Own K F H n v d fp → Own K F' H' n v d fp
  | 0, v, d, fp, _, h => ⟨h.1.mono sF, h.2⟩
  | n + 1, v, .lst ds, fp, s, ⟨a, vs, f, e, h, ef, t⟩ => ⟨a, vs, f, e, s a (by rw [ef]; exact List.mem_cons_self) _ h, ef, t.imp fun v d g hg => Own.mono sF fun b hb => s b (by rw [ef]; exact List.mem_cons_of_mem _ (hg b hb))⟩
  | n + 1, v, .dK es, fp, s, ⟨a, vs, f, e, h, ef, ek, t⟩ => ⟨a, vs, f, e, s a (by rw [ef]; exact List.mem_cons_self) _ h, ef, ek, t.imp fun v d g hg => Own.mono sF fun b hb => s b (by rw [ef]; exact List.mem_cons_of_mem _ (hg b hb))⟩
  | n + 1, v, .dT es, fp, s, ⟨a, vs, f, e, h, ef, ek, t⟩ => ⟨a, vs, f, e, s a (by rw [ef]; exact List.mem_cons_self) _ h, ef, ek, t.imp fun v d g hg => Own.mono sF fun b hb => s b (by rw [ef]; exact List.mem_cons_of_mem _ (hg b hb))⟩
  | n + 1, v, .obj C es, fp, s, ⟨a, dx, vs, f, e, h, ef, ek, t⟩ => ⟨a, dx, vs, f, e, s a (by rw [ef]; exact List.mem_cons_self) _ h, ef, ek, t.imp fun v d g hg => Own.mono sF fun b hb => s b (by rw [ef]; exact List.mem_cons_of_mem _ (hg b hb))⟩
  | n + 1, v, .tup ds, fp, s, ⟨a, vs, e, h, t⟩ => ⟨a, vs, e, sF _ _ h, t.imp fun v d g hg => Own.mono sF fun b hb => s b (hg b hb)⟩
  | n + 1, v, .non, fp, s, h => ⟨h.1.mono sF, h.2⟩
  | n + 1, v, .bl _, fp, s, h => ⟨h.1.mono sF, h.2⟩
  | n + 1, v, .int _, fp, s, h => ⟨h.1.mono sF, h.2⟩
  | n + 1, v, .str _, fp, s, h => ⟨h.1.mono sF, h.2⟩
  | n + 1, v, .raw _, fp, s, h => ⟨h.1.mono sF, h.2⟩
/-- what stands for the data in a heap that has all -/
theorem OwnL.toRL {P : V → D → List Addr → Prop} {G : Hp} : ∀ {vs : List V} {ds : List D} {fp : List Addr}, OwnL P vs ds fp → (∀ v d f, (∀ a ∈ f, a ∈ fp) → P v d f → R K G v d) → RL K G vs ds
  | [], [], _, _, _ => .nil
  | v :: vs, d :: ds, fp, ⟨f1, f2, e, h, t⟩, k => .cons (k v d f1 (fun a ha => by rw [e]; exact List.mem_append_left _ ha) h) (OwnL.toRL t fun v d f hf => k v d f fun a ha => by rw [e]; exact List.mem_append_right _ (hf a ha))
theorem Own.toR {G : Hp} (sF : Same F G) : ∀ {n : Nat} {v : V} {d : D} {fp : List Addr}, (∀ a ∈ fp, ∀ o, H a = some o → erO o = o → G a = some o) → Own K F H n v d fp → R K G v d
  | 0, v, d, fp, _, h => h.1.mono sF
  | n + 1, v, .lst ds, fp, s, ⟨a, vs, f, e, h, ef, t⟩ => by
    subst e
    exact .lst (s a (by rw [ef]; exact List.mem_cons_self) _ h rfl) (t.toRL fun v d g hg => Own.toR sF fun b hb => s b (by rw [ef]; exact List.mem_cons_of_mem _ (hg b hb)))
  | n + 1, v, .dK es, fp, s, ⟨a, vs, f, e, h, ef, ek, t⟩ => by
    subst e
    exact .dK (s a (by rw [ef]; exact List.mem_cons_self) _ h rfl) ek (t.toRL fun v d g hg => Own.toR sF fun b hb => s b (by rw [ef]; exact List.mem_cons_of_mem _ (hg b hb)))
  | n + 1, v, .dT es, fp, s, ⟨a, vs, f, e, h, ef, ek, t⟩ => by
    subst e
    exact .dT (s a (by rw [ef]; exact List.mem_cons_self) _ h rfl) ek (t.toRL fun v d g hg => Own.toR sF fun b hb => s b (by rw [ef]; exact List.mem_cons_of_mem _ (hg b hb)))
  | n + 1, v, .obj C es, fp, s, ⟨a, dx, vs, f, e, h, ef, ek, t⟩ => by
    subst e
    exact .obj (s a (by rw [ef]; exact List.mem_cons_self) _ h rfl) ek (t.toRL fun v d g hg => Own.toR sF fun b hb => s b (by rw [ef]; exact List.mem_cons_of_mem _ (hg b hb)))
  | n + 1, v, .tup ds, fp, s, ⟨a, vs, e, h, t⟩ => by
    subst e
    exact .tup (sF _ _ h) (t.toRL fun v d g hg => Own.toR sF fun b hb => s b (hg b hb))
  | n + 1, v, .non, fp, s, h => h.1.mono sF
  | n + 1, v, .bl _, fp, s, h => h.1.mono sF
  | n + 1, v, .int _, fp, s, h => h.1.mono sF
  | n + 1, v, .str _, fp, s, h => h.1.mono sF
  | n + 1, v, .raw _, fp, s, h => h.1.mono sF
theorem OwnL.there {P : V → D → List Addr → Prop} {p : Addr → Prop} : ∀ {vs : List V} {ds : List D} {fp : List Addr}, OwnL P vs ds fp → (∀ v d f, P v d f → ∀ a ∈ f, p a) → ∀ a ∈ fp, p a
  | [], [], _, h, _, a, ha => by rw [show _ = _ from h] at ha; cases ha
  | v :: vs, d :: ds, fp, ⟨f1, f2, e, h, t⟩, k, a, ha => by
    rw [e] at ha
    rcases List.mem_append.mp ha with z | z
    · exact k v d f1 h a z
    · exact OwnL.there t k a z
/-- what is owned stands in the heap -/
theorem Own.there : ∀ {n : Nat} {v : V} {d : D} {fp : List Addr}, Own K F H n v d fp → ∀ a ∈ fp, ∃ o, H a = some o ∧ Mut (some o)
  | 0, v, d, fp, h, a, ha => by rw [h.2] at ha; cases ha
  | n + 1, v, .lst ds, fp, ⟨a, vs, f, e, h, ef, t⟩, b, hb => by
    rw [ef] at hb
    rcases List.mem_cons.mp hb with z | z
    · exact ⟨HO.lst vs, by rw [z]; exact h, trivial⟩
    · exact t.there (fun v d f q => Own.there q) b z
  | n + 1, v, .dK es, fp, ⟨a, vs, f, e, h, ef, ek, t⟩, b, hb => by
    rw [ef] at hb
    rcases List.mem_cons.mp hb with z | z
    · exact ⟨HO.dK vs, by rw [z]; exact h, trivial⟩
    · exact t.there (fun v d f q => Own.there q) b z
  | n + 1, v, .dT es, fp, ⟨a, vs, f, e, h, ef, ek, t⟩, b, hb => by
    rw [ef] at hb
    rcases List.mem_cons.mp hb with z | z
    · exact ⟨HO.dT vs, by rw [z]; exact h, trivial⟩
    · exact t.there (fun v d f q => Own.there q) b z
  | n + 1, v, .obj C es, fp, ⟨a, dx, vs, f, e, h, ef, ek, t⟩, b, hb => by
    rw [ef] at hb
    rcases List.mem_cons.mp hb with z | z
    · exact ⟨HO.ins C dx vs, by rw [z]; exact h, trivial⟩
    · exact t.there (fun v d f q => Own.there q) b z
  | n + 1, v, .tup ds, fp, ⟨a, vs, e, h, t⟩, b, hb => t.there (fun v d f q => Own.there q) b hb
  | n + 1, v, .non, fp, h, a, ha => by rw [h.2] at ha; cases ha
  | n + 1, v, .bl _, fp, h, a, ha => by rw [h.2] at ha; cases ha
  | n + 1, v, .int _, fp, h, a, ha => by rw [h.2] at ha; cases ha
  | n + 1, v, .str _, fp, h, a, ha => by rw [h.2] at ha; cases ha
  | n + 1, v, .raw _, fp, h, a, ha => by rw [h.2] at ha; cases ha
end

/-! ### data without lists, dicts and instances -/
mutual
def D.flat : D → Bool
  | .tup xs => flatL xs
  | .lst _ => false
  | .dK _ => false
  | .dT _ => false
  | .obj _ _ => false
  | _ => true
def flatL : List D → Bool
  | [] => true
  | d :: ds => d.flat && flatL ds
end
def isTup : HO → Prop
  | .tup _ => True
  | _ => False
mutual
theorem R.flat {K : PySem.W.Frag} {F G : Hp} (s : ∀ a vs, F a = some (.tup vs) → G a = some (.tup vs)) : ∀ {v : V} {d : D}, d.flat = true → R K F v d → R K G v d
  | _, _, _, .non => .non
  | _, _, _, .bl b => .bl b
  | _, _, _, .int i => .int i
  | _, _, _, .str x => .str x
  | _, _, _, .raw v => .raw v
  | _, _, e, .tup h r => .tup (s _ _ h) (RL.flat s (by simpa [D.flat] using e) r)
  | _, _, e, .lst h r => by simp [D.flat] at e
  | _, _, e, .dK h hk r => by simp [D.flat] at e
  | _, _, e, .dT h hk r => by simp [D.flat] at e
  | _, _, e, .obj h hk r => by simp [D.flat] at e
theorem RL.flat {K : PySem.W.Frag} {F G : Hp} (s : ∀ a vs, F a = some (.tup vs) → G a = some (.tup vs)) : ∀ {vs : List V} {ds : List D}, flatL ds = true → RL K F vs ds → RL K G vs ds
  | _, _, _, .nil => .nil
  | _, _, e, .cons h t => by
    rw [flatL, Bool.and_eq_true] at e
    exact .cons (R.flat s e.1 h) (RL.flat s e.2 t)
end
/-- n layers, then flat -/
def flatN : Nat → D → Bool
  | 0, d => d.flat
  | n + 1, .lst ds => ds.all (flatN n)
  | n + 1, .dK es => es.all fun e => flatN n e.2
  | n + 1, .dT es => es.all fun e => flatN n e.2
  | n + 1, .obj _ es => es.all fun e => flatN n e.2
  | n + 1, .tup ds => ds.all (flatN n)
  | _ + 1, _ => true
section
variable {K : PySem.W.Frag} {F F' G H H' : Hp} {B : List Addr}
theorem OwnL.impD {P Q : V → D → List Addr → Prop} : ∀ {vs : List V} {ds : List D} {fp : List Addr}, OwnL P vs ds fp → (∀ v d f, d ∈ ds → P v d f → Q v d f) → OwnL Q vs ds fp
  | [], [], _, h, _ => h
  | v :: vs, d :: ds, fp, ⟨f1, f2, e, h, t⟩, k => ⟨f1, f2, e, k v d f1 List.mem_cons_self h, OwnL.impD t fun v d f hd => k v d f (List.mem_cons_of_mem _ hd)⟩
theorem all_snd {κ : Type} {es : List (κ × D)} {p : D → Bool} (h : (es.all fun e => p e.2) = true) : ∀ d ∈ es.map (·.2), p d = true := fun d hd => by
  obtain ⟨e, he, rfl⟩ := List.mem_map.mp hd
  exact List.all_eq_true.mp h e he
theorem Own.flat (s : ∀ a vs, F a = some (.tup vs) → G a = some (.tup vs)) : ∀ {n : Nat} {v : V} {d : D} {fp : List Addr}, flatN n d = true → Own K F H n v d fp → Own K G H n v d fp
  | 0, v, d, fp, e, h => ⟨h.1.flat s e, h.2⟩
  | n + 1, v, .lst ds, fp, e, ⟨a, vs, f, ev, h, ef, t⟩ => ⟨a, vs, f, ev, h, ef, t.impD fun v d g hd => Own.flat s (List.all_eq_true.mp e d hd)⟩
  | n + 1, v, .dK es, fp, e, ⟨a, vs, f, ev, h, ef, ek, t⟩ => ⟨a, vs, f, ev, h, ef, ek, t.impD fun v d g hd => Own.flat s (all_snd e d hd)⟩
  | n + 1, v, .dT es, fp, e, ⟨a, vs, f, ev, h, ef, ek, t⟩ => ⟨a, vs, f, ev, h, ef, ek, t.impD fun v d g hd => Own.flat s (all_snd e d hd)⟩
  | n + 1, v, .obj C es, fp, e, ⟨a, dx, vs, f, ev, h, ef, ek, t⟩ => ⟨a, dx, vs, f, ev, h, ef, ek, t.impD fun v d g hd => Own.flat s (all_snd e d hd)⟩
  | n + 1, v, .tup ds, fp, e, ⟨a, vs, ev, h, t⟩ => ⟨a, vs, ev, s _ _ h, t.impD fun v d g hd => Own.flat s (List.all_eq_true.mp e d hd)⟩
  | n + 1, v, .non, fp, e, h => ⟨h.1.flat s rfl, h.2⟩
  | n + 1, v, .bl _, fp, e, h => ⟨h.1.flat s rfl, h.2⟩
  | n + 1, v, .int _, fp, e, h => ⟨h.1.flat s rfl, h.2⟩
  | n + 1, v, .str _, fp, e, h => ⟨h.1.flat s rfl, h.2⟩
  | n + 1, v, .raw _, fp, e, h => ⟨h.1.flat s rfl, h.2⟩
end

/-! ### the law's bag: its list, the cells, what is left of them, the script -/
def BagOk (B : List Addr) (H : Hp) : Prop :=
  B = [] ∨ ∃ (b c l : Addr) (ts : List Addr) (cells left : List Int) (turn : Int), B = b :: c :: l :: ts ∧ (∀ t ∈ ts, ∃ o xs, H t = some (.frz o (.lst xs))) ∧ H b = some (.lst [.ref c, .ref l, .int turn]) ∧ H c = some (.lst (cells.map V.int)) ∧ H l = some (.lst (left.map V.int)) ∧
    b ≠ c ∧ b ≠ l ∧ c ≠ l ∧ 0 ≤ turn ∧ 0 < cells.length ∧ cells.length ≤ 63 ∧ left.length = cells.length

structure WF (B : List Addr) (F H : Hp) : Prop where
  sub : Same F (rdH B H)
  lock : ∀ a o u, a ∉ B → H a = some (.frz o u) → isDct u
  bag : BagOk B H
/-- an expression: nothing that stood is changed but the bag; what may be read grows by what is new, by tuples and by A -/
structure Step (B A : List Addr) (F H F' H' : Hp) : Prop where
  same : ∀ a o, a ∉ B → H a = some o → H' a = some o
  fs : Same F F'
  fresh : ∀ a u, F' a = some u → F a = some u ∨ H a = none ∨ isTup u ∨ a ∈ A
  wf : WF B F' H'
def OwnE (K : PySem.W.Frag) (F H : Hp) : L2.St → Env → List Addr → Prop
  | [], [], fp => fp = []
  | _ :: σ, none :: ρ, fp => OwnE K F H σ ρ fp
  | some v :: σ, some (n, d) :: ρ, fp => ∃ f1 f2, fp = f1 ++ f2 ∧ Own K F H n v d f1 ∧ OwnE K F H σ ρ f2
  | _, _, _ => False
/-- the state of a def's body. Z0: what stands and stays; F0: what could be read at the start; Pn: the slots that keep their values -/
structure StOk (K : PySem.W.Frag) (B : List Addr) (Pn : List V) (Z0 F0 F H : Hp) (σ : L2.St) (ρ : Env) (fp : List Addr) : Prop where
  wf : WF B F H
  own : OwnE K F H σ ρ fp
  nd : fp.Nodup
  out : ∀ a ∈ fp, F a = none ∧ a ∉ B ∧ Z0 a = none
  z : Same Z0 H
  zB : ∀ a ∈ B, Z0 a = none
  f : Same F0 F
  fr : ∀ a u, F a = some u → F0 a = some u ∨ Z0 a = none ∨ isTup u
  pn : ∀ (i : Nat) (v : V), Pn[i]? = some v → σ[i]? = some (some v)
inductive Mode where
  | rd | bor (n : Nat) | own (n : Nat)
/-- a value: read alone; owned by somebody else; owned -/
def Val (K : PySem.W.Frag) (m : Mode) (B : List Addr) (F H : Hp) (v : V) (d : D) (fp : List Addr) : Prop :=
  match m with
  | .rd => R K (rdH B H) v d ∧ fp = []
  | .bor n => (∃ f, Own K F H n v d f ∧ ∀ a ∈ f, a ∉ B) ∧ fp = []
  | .own n => Own K F H n v d fp

section
variable {K : PySem.W.Frag} {F F0 Z0 F' G H H' : Hp} {B A fp : List Addr} {Pn : List V} {σ : L2.St} {ρ : Env}
theorem WF.outB (w : WF B F H) {a : Addr} (h : a ∈ B) : F a = none := by
  cases q : F a with
  | none => rfl
  | some u =>
    have := w.sub a u q
    exact absurd h (rdH_some this).1
theorem OwnE.mono (sF : Same F F') : ∀ {σ : L2.St} {ρ : Env} {fp : List Addr}, (∀ a ∈ fp, ∀ o, H a = some o → H' a = some o) → OwnE K F H σ ρ fp → OwnE K F' H' σ ρ fp
  | [], [], _, _, h => h
  | _ :: σ, none :: ρ, fp, s, h => OwnE.mono (σ := σ) (ρ := ρ) sF s h
  | some v :: σ, some (n, d) :: ρ, fp, s, ⟨f1, f2, e, h, t⟩ =>
    ⟨f1, f2, e, h.mono sF fun a ha => s a (by rw [e]; exact List.mem_append_left _ ha), OwnE.mono (σ := σ) (ρ := ρ) sF (fun a ha => s a (by rw [e]; exact List.mem_append_right _ ha)) t⟩
theorem OwnE.there : ∀ {σ : L2.St} {ρ : Env} {fp : List Addr}, OwnE K F H σ ρ fp → ∀ a ∈ fp, ∃ o, H a = some o ∧ Mut (some o)
  | [], [], _, h, a, ha => by rw [show _ = _ from h] at ha; cases ha
  | _ :: σ, none :: ρ, fp, h, a, ha => OwnE.there (σ := σ) (ρ := ρ) h a ha
  | some v :: σ, some (n, d) :: ρ, fp, ⟨f1, f2, e, h, t⟩, a, ha => by
    rw [e] at ha
    rcases List.mem_append.mp ha with z | z
    · exact h.there a z
    · exact OwnE.there (σ := σ) (ρ := ρ) t a z
theorem OwnE.len : ∀ {σ : L2.St} {ρ : Env} {fp : List Addr}, OwnE K F H σ ρ fp → σ.length = ρ.length
  | [], [], _, h => rfl
  | _ :: σ, none :: ρ, fp, h => by rw [List.length_cons, List.length_cons, OwnE.len (σ := σ) (ρ := ρ) h]
  | some v :: σ, some (n, d) :: ρ, fp, ⟨f1, f2, e, h, t⟩ => by rw [List.length_cons, List.length_cons, OwnE.len (σ := σ) (ρ := ρ) t]
theorem Step.refl (w : WF B F H) : Step B A F H F H := ⟨fun _ _ _ h => h, fun _ _ h => h, fun _ _ h => .inl h, w⟩
theorem Step.trans {F1 H1 : Hp} {A1 : List Addr} (s : Step B A F H F1 H1) (t : Step B A1 F1 H1 F' H') (hA : ∀ a ∈ A1, H a = none ∨ a ∈ A) : Step B A F H F' H' :=
  ⟨fun a o hb h => t.same a o hb (s.same a o hb h), fun a u h => t.fs a u (s.fs a u h), fun a u h => by
    rcases t.fresh a u h with q | q | q | q
    · exact s.fresh a u q
    · right; left
      cases e : H a with
      | none => rfl
      | some o =>
        by_cases hb : a ∈ B
        · have := t.wf.outB hb
          rw [this] at h; cases h
        · rw [s.same a o hb e] at q; cases q
    · exact .inr (.inr (.inl q))
    · exact (hA a q).elim (fun z => .inr (.inl z)) fun z => .inr (.inr (.inr z)), t.wf⟩
/-- an owned thing is no bag's, no frozen one's behind a step -/
theorem Step.out (s : Step B A F H F' H') {a : Addr} {o : HO} (h : H a = some o) (m : Mut (some o)) (hB : a ∉ B) (hF : F a = none) (hA : a ∉ A) : F' a = none := by
  cases q : F' a with
  | none => rfl
  | some u =>
    exfalso
    rcases s.fresh a u q with z | z | z | z
    · rw [hF] at z; cases z
    · rw [h] at z; cases z
    · have e := s.wf.sub a u q
      obtain ⟨_, x, hx, ex⟩ := rdH_some e
      rw [s.same a o hB h] at hx
      cases hx
      cases o <;> cases u <;> first | (cases ex; done) | (exact z) | (exact m)
    · exact hA z
theorem StOk.step (S : StOk K B Pn Z0 F0 F H σ ρ fp) (s : Step B A F H F' H') (hA : ∀ a ∈ A, a ∉ fp ∧ Z0 a = none) : StOk K B Pn Z0 F0 F' H' σ ρ fp where
  wf := s.wf
  own := S.own.mono s.fs fun a ha o e => s.same a o (S.out a ha).2.1 e
  nd := S.nd
  out := fun a ha => by
    obtain ⟨o, e, m⟩ := S.own.there a ha
    obtain ⟨h1, h2, h3⟩ := S.out a ha
    exact ⟨s.out e m h2 h1 fun z => (hA a z).1 ha, h2, h3⟩
  z := fun a o e => s.same a o (fun hb => by rw [S.zB a hb] at e; cases e) (S.z a o e)
  zB := S.zB
  f := fun a u e => s.fs a u (S.f a u e)
  fr := fun a u e => by
    rcases s.fresh a u e with q | q | q | q
    · exact S.fr a u q
    · right; left
      cases z : Z0 a with
      | none => rfl
      | some o => rw [S.z a o z] at q; cases q
    · exact .inr (.inr q)
    · exact .inr (.inl (hA a q).2)
  pn := S.pn
/-- forget the base -/
theorem StOk.base (S : StOk K B Pn Z0 F0 F H σ ρ fp) : StOk K B [] noH noH F H σ ρ fp :=
  ⟨S.wf, S.own, S.nd, fun a ha => ⟨(S.out a ha).1, (S.out a ha).2.1, rfl⟩, fun _ _ e => (by cases e), fun _ _ => rfl, fun _ _ e => (by cases e), fun _ _ _ => .inr (.inl rfl), fun i v e => (by simp at e)⟩
theorem Val.step {m : Mode} {v : V} {d : D} (h : Val K m B F H v d fp) (s : Step B A F H F' H') (hB : ∀ a ∈ fp, a ∉ B) : Val K m B F' H' v d fp := by
  cases m with
  | rd => exact ⟨h.1.mono (rdH_same s.same), h.2⟩
  | bor n =>
    obtain ⟨⟨f, h, hf⟩, e⟩ := h
    exact ⟨⟨f, Own.mono s.fs (fun a ha o e => s.same a o (hf a ha) e) h, hf⟩, e⟩
  | own n => exact Own.mono s.fs (fun a ha o e => s.same a o (hB a ha) e) h
/-- what may be read alone -/
theorem Val.rd {m : Mode} {v : V} {d : D} (w : WF B F H) (hB : ∀ a ∈ fp, a ∉ B) (h : Val K m B F H v d fp) : R K (rdH B H) v d := by
  cases m with
  | rd => exact h.1
  | bor n =>
    obtain ⟨⟨f, h, hf⟩, e⟩ := h
    exact Own.toR w.sub (fun a ha o e er => rdH_of (hf a ha) e er) h
  | own n => exact Own.toR w.sub (fun a ha o e er => rdH_of (hB a ha) e er) h
theorem Val.there {m : Mode} {v : V} {d : D} (h : Val K m B F H v d fp) : ∀ a ∈ fp, ∃ o, H a = some o ∧ Mut (some o) := by
  cases m with
  | rd => intro a ha; rw [h.2] at ha; cases ha
  | bor n => intro a ha; rw [h.2] at ha; cases ha
  | own n => exact Own.there h
/-- an atom is in every mode -/
def atomD : D → Bool
  | .non => true
  | .bl _ => true
  | .int _ => true
  | .str _ => true
  | .raw _ => true
  | _ => false
theorem Own.atom {n : Nat} {v : V} {d : D} (ha : atomD d = true) (h : R K F v d) : Own K F H n v d [] := by
  cases n with
  | zero => exact ⟨h, rfl⟩
  | succ n => cases d <;> first | exact ⟨h, rfl⟩ | (cases ha)
theorem Val.atom {m : Mode} {v : V} {d : D} (ha : atomD d = true) (h : ∀ F, R K F v d) : Val K m B F H v d [] := by
  cases m with
  | rd => exact ⟨h _, rfl⟩
  | bor n => exact ⟨⟨[], Own.atom ha (h _), fun a h => (by cases h)⟩, rfl⟩
  | own n => exact Own.atom ha (h _)
end
end GK

namespace GK
open PySem PySem.Spec PyProof.Rows L2

/-! ### the judgements over data -/
abbrev FE := Env → (D → Prop) → Prop
abbrev FT := Env → (Bool → Prop) → Prop
abbrev FA := Env → (List D → Prop) → Prop
/-- what is wanted behind a value -/
def Post (K : PySem.W.Frag) (B A : List Addr) (F H : Hp) (m : Mode) (R : D → Prop) (Q : VK) : Prop :=
  ∀ F' H' v d fp, Step B A F H F' H' → Val K m B F' H' v d fp → (∀ a ∈ fp, (a ∈ A ∨ H a = none) ∧ F' a = none ∧ a ∉ B) → fp.Nodup → R d → Q v H'
def PostT (B A : List Addr) (F H : Hp) (R : Bool → Prop) (Q : Bool → Hp → Prop) : Prop :=
  ∀ F' H' b, Step B A F H F' H' → R b → Q b H'
def ValL (K : PySem.W.Frag) (B : List Addr) (F H : Hp) : List Mode → List V → List D → List Addr → Prop
  | [], [], [], fp => fp = []
  | m :: ms, v :: vs, d :: ds, fp => ∃ f1 f2, fp = f1 ++ f2 ∧ Val K m B F H v d f1 ∧ ValL K B F H ms vs ds f2
  | _, _, _, _ => False
def PostA (K : PySem.W.Frag) (B A : List Addr) (F H : Hp) (ms : List Mode) (R : List D → Prop) (Q : List V → Hp → Prop) : Prop :=
  ∀ F' H' vs ds fp, Step B A F H F' H' → ValL K B F' H' ms vs ds fp → (∀ a ∈ fp, (a ∈ A ∨ H a = none) ∧ F' a = none ∧ a ∉ B) → fp.Nodup → R ds → Q vs H'
def tD (K : PySem.W.Frag) (B : List Addr) (m : Mode) (f : FE) : TE := fun σ H Q => ∃ F ρ fp R, StOk K B [] noH noH F H σ ρ fp ∧ f ρ R ∧ Post K B [] F H m R Q
def tDT (K : PySem.W.Frag) (B : List Addr) (f : FT) : TT := fun σ H Q => ∃ F ρ fp R, StOk K B [] noH noH F H σ ρ fp ∧ f ρ R ∧ PostT B [] F H R Q
def tDA (K : PySem.W.Frag) (B : List Addr) (ms : List Mode) (f : FA) : TA := fun σ H Q => ∃ F ρ fp R, StOk K B [] noH noH F H σ ρ fp ∧ f ρ R ∧ PostA K B [] F H ms R Q
abbrev DE (X : Cx) (B : List Addr) (e : Expr) (m : Mode) (f : FE) : Prop := PE X e (tD X.K B m f)
abbrev DT (X : Cx) (B : List Addr) (e : Expr) (f : FT) : Prop := PT X e (tDT X.K B f)
abbrev DA (X : Cx) (B : List Addr) (es : List Expr) (ms : List Mode) (f : FA) : Prop := PA X es (tDA X.K B ms f)
theorem PE.imp {X : Cx} {e : Expr} {t t' : TE} (h : PE X e t) (k : ∀ σ H Q, t' σ H Q → t σ H Q) : PE X e t' := ⟨fun pins s σ H Q I q => h.run pins s σ H Q I (k σ H Q q)⟩
theorem PT.imp {X : Cx} {e : Expr} {t t' : TT} (h : PT X e t) (k : ∀ σ H Q, t' σ H Q → t σ H Q) : PT X e t' := ⟨fun pins s σ H Q I q => h.run pins s σ H Q I (k σ H Q q)⟩
theorem PW.imp {X : Cx} {e : Expr} {t t' : TT} (h : PW X e t) (k : ∀ σ H Q, t' σ H Q → t σ H Q) : PW X e t' := ⟨fun w pins s σ H Q I q => h.run w pins s σ H Q I (k σ H Q q)⟩
theorem PA.imp {X : Cx} {e : List Expr} {t t' : TA} (h : PA X e t) (k : ∀ σ H Q, t' σ H Q → t σ H Q) : PA X e t' := ⟨fun p pins s σ H Q I q => h.run p pins s σ H Q I (k σ H Q q)⟩
theorem PS.imp {X : Cx} {e : Stmt} {t t' : TS} (h : PS X e t) (k : ∀ D σ H, t' D σ H → t D σ H) : PS X e t' := ⟨fun pins s σ H D I q => h.run pins s σ H D I (k D σ H q)⟩
theorem PSs.imp {X : Cx} {e : List Stmt} {t t' : TS} (h : PSs X e t) (k : ∀ D σ H, t' D σ H → t D σ H) : PSs X e t' := ⟨fun pins s σ H D I q => h.run pins s σ H D I (k D σ H q)⟩

section
variable {K : PySem.W.Frag} {B A : List Addr} {F F1 F' H H1 H' : Hp} {m : Mode} {Pn : List V} {σ : L2.St} {ρ : Env} {fp : List Addr}
/-- behind a step: what is new there was new before -/
theorem Step.new {a : Addr} (s : Step B A F H F1 H1) (hb : a ∉ B) (h : H1 a = none) : H a = none := by
  cases q : H a with
  | none => rfl
  | some o => rw [s.same a o hb q] at h; cases h
theorem Step.weak {A1 : List Addr} (s : Step B A1 F H F1 H1) (h : ∀ a ∈ A1, a ∈ A) : Step B A F H F1 H1 :=
  ⟨s.same, s.fs, fun a u e => (s.fresh a u e).imp id fun z => z.imp id fun z => z.imp id (h a), s.wf⟩
theorem Post.after {R : D → Prop} {Q : VK} {A1 : List Addr} (k : Post K B A F H m R Q) (s : Step B A F H F1 H1) (hA : ∀ a ∈ A1, a ∈ A ∨ H a = none) : Post K B A1 F1 H1 m R Q :=
  fun F' H' v d fp s' hv ho hn hR => k F' H' v d fp (s.trans s' fun a ha => (hA a ha).symm) hv (fun a ha => by
    obtain ⟨h1, h2, h3⟩ := ho a ha
    refine ⟨?_, h2, h3⟩
    rcases h1 with z | z
    · exact hA a z
    · exact .inr (s.new h3 z)) hn hR
theorem PostA.after {ms : List Mode} {R : List D → Prop} {Q : List V → Hp → Prop} {A1 : List Addr} (k : PostA K B A F H ms R Q) (s : Step B A F H F1 H1) (hA : ∀ a ∈ A1, a ∈ A ∨ H a = none) : PostA K B A1 F1 H1 ms R Q :=
  fun F' H' v d fp s' hv ho hn hR => k F' H' v d fp (s.trans s' fun a ha => (hA a ha).symm) hv (fun a ha => by
    obtain ⟨h1, h2, h3⟩ := ho a ha
    refine ⟨?_, h2, h3⟩
    rcases h1 with z | z
    · exact hA a z
    · exact .inr (s.new h3 z)) hn hR
theorem PostT.after {R : Bool → Prop} {Q : Bool → Hp → Prop} {A1 : List Addr} (k : PostT B A F H R Q) (s : Step B A F H F1 H1) (hA : ∀ a ∈ A1, a ∈ A ∨ H a = none) : PostT B A1 F1 H1 R Q :=
  fun F' H' b s' hR => k F' H' b (s.trans s' fun a ha => (hA a ha).symm) hR
/-- an atom comes -/
theorem Post.at {R : D → Prop} {Q : VK} {v : V} {d : D} (k : Post K B A F H m R Q) (w : WF B F H) (ha : atomD d = true) (h : ∀ F, GK.R K F v d) (q : R d) : Q v H := by
  exact k F H v d [] (Step.refl w) (Val.atom ha h) (fun a h => (by cases h)) List.nodup_nil q
theorem Post.int {R : D → Prop} {Q : VK} {i : Int} (k : Post K B A F H m R Q) (w : WF B F H) (q : R (.int i)) : Q (.int i) H := k.at w rfl (fun _ => .int i) q
theorem Post.bl {R : D → Prop} {Q : VK} {b : Bool} (k : Post K B A F H m R Q) (w : WF B F H) (q : R (.bl b)) : Q (.bl b) H := k.at w rfl (fun _ => .bl b) q
theorem Post.str {R : D → Prop} {Q : VK} {b : Str} (k : Post K B A F H m R Q) (w : WF B F H) (q : R (.str b)) : Q (.str b) H := k.at w rfl (fun _ => .str b) q
theorem Post.non {R : D → Prop} {Q : VK} (k : Post K B A F H m R Q) (w : WF B F H) (q : R .non) : Q .non H := k.at w rfl (fun _ => .non) q
end

/-! ### operations by values -/
/-- the addresses of a value that is owned -/
def Fp (B : List Addr) (F : Hp) (fp : List Addr) : Prop := (∀ a ∈ fp, F a = none ∧ a ∉ B) ∧ fp.Nodup
def Op1 (K : PySem.W.Frag) (r : V → Hp → VK → Prop) (m1 m : Mode) (g : D → (D → Prop) → Prop) : Prop :=
  ∀ B F H x d fp R Q, WF B F H → Val K m1 B F H x d fp → Fp B F fp → g d R → Post K B fp F H m R Q → r x H Q
def Op2 (K : PySem.W.Frag) (r : R2) (m1 m2 m : Mode) (g : D → D → (D → Prop) → Prop) : Prop :=
  ∀ B F H x y d e fp R Q, WF B F H → (∃ f1 f2, fp = f1 ++ f2 ∧ Val K m1 B F H x d f1 ∧ Val K m2 B F H y e f2) → Fp B F fp → g d e R → Post K B fp F H m R Q → r x y H Q
def OpN (K : PySem.W.Frag) (r : List V → Hp → VK → Prop) (ms : List Mode) (m : Mode) (g : List D → (D → Prop) → Prop) : Prop :=
  ∀ B F H vs ds fp R Q, WF B F H → ValL K B F H ms vs ds fp → Fp B F fp → g ds R → Post K B fp F H m R Q → r vs H Q
abbrev fUn (g : D → (D → Prop) → Prop) (f : FE) : FE := fun ρ R => f ρ fun x => g x R
abbrev fBin (g : D → D → (D → Prop) → Prop) (f f' : FE) : FE := fun ρ R => f ρ fun x => f' ρ fun y => g x y R
abbrev fArgs (g : List D → (D → Prop) → Prop) (f : FA) : FE := fun ρ R => f ρ fun xs => g xs R
abbrev fCons (f : FE) (fs : FA) : FA := fun ρ R => f ρ fun x => fs ρ fun xs => R (x :: xs)
abbrev fNil : FA := fun _ R => R []
section
variable {K : PySem.W.Frag} {m m1 m2 : Mode} {σ : L2.St} {H : Hp}
theorem tD_un {r : V → Hp → VK → Prop} {g : D → (D → Prop) → Prop} {f : FE} {Q : VK} (hr : Op1 K r m1 m g) (h : tD K B m (fUn g f) σ H Q) : tD K B m1 f σ H fun x H1 => r x H1 Q := by
  obtain ⟨F, ρ, fp, R, S, hf, k⟩ := h
  exact ⟨F, ρ, fp, _, S, hf, fun F1 H1 v d fp1 s1 hv o1 n1 hg => hr B F1 H1 v d fp1 R Q s1.wf hv ⟨fun a ha => (o1 a ha).2, n1⟩ hg (k.after s1 fun a ha => (o1 a ha).1)⟩
theorem tD_bin {r : R2} {g : D → D → (D → Prop) → Prop} {f f' : FE} {Q : VK} (hr : Op2 K r m1 m2 m g) (h : tD K B m (fBin g f f') σ H Q) : tD K B m1 f σ H fun x H1 => tD K B m2 f' σ H1 fun y H2 => r x y H2 Q := by
  obtain ⟨F, ρ, fp, R, S, hf, k⟩ := h
  refine ⟨F, ρ, fp, _, S, hf, fun F1 H1 v1 d1 fp1 s1 hv1 o1 n1 hg1 => ?_⟩
  refine ⟨F1, ρ, fp, _, S.step s1 (fun a ha => by cases ha), hg1, fun F2 H2 v2 d2 fp2 s2 hv2 o2 n2 hg2 => ?_⟩
  have t1 := hv1.there
  have nn : ∀ a ∈ fp1, F2 a = none := fun a ha => by
    obtain ⟨o, e, mu⟩ := t1 a ha
    exact s2.out e mu (o1 a ha).2.2 (o1 a ha).2.1 fun z => by cases z
  refine hr B F2 H2 v1 v2 d1 d2 (fp1 ++ fp2) R Q s2.wf ⟨fp1, fp2, rfl, hv1.step s2 fun a ha => (o1 a ha).2.2, hv2⟩ ⟨fun a ha => ?_, ?_⟩ hg2 ((k.after s1 (A1 := fp1) fun a ha => (o1 a ha).1).after (s2.weak fun a ha => by cases ha) fun a ha => ?_)
  · rcases List.mem_append.mp ha with z | z
    · exact ⟨nn a z, (o1 a z).2.2⟩
    · exact (o2 a z).2
  · refine List.nodup_append.mpr ⟨n1, n2, fun a ha b hb e => ?_⟩
    subst e
    obtain ⟨o, e, mu⟩ := t1 a ha
    rcases (o2 a hb).1 with z | z
    · cases z
    · rw [e] at z; cases z
  · rcases List.mem_append.mp ha with z | z
    · exact .inl z
    · exact .inr ((o2 a z).1.elim (fun z => by cases z) id)
end
theorem de_un {X : Cx} {e : Expr} {op : UnaryOp} {pos : Pos} {m m1 : Mode} {r : V → Hp → VK → Prop} {g : D → (D → Prop) → Prop} {f : FE} (ho : UnR X (unaryOp op) r) (hr : Op1 X.K r m1 m g) (h : DE X B e m1 f) : DE X B (.UnaryOp op e pos) m (fUn g f) :=
  PE.imp (pe_un ho h) fun _ _ _ q => tD_un hr q
theorem de_op {X : Cx} {a b : Expr} {op : Operator} {pos : Pos} {m m1 m2 : Mode} {r : R2} {g : D → D → (D → Prop) → Prop} {f f' : FE} (ho : OpR X (binaryOp op) r) (hr : Op2 X.K r m1 m2 m g) (ha : DE X B a m1 f) (hb : DE X B b m2 f') :
    DE X B (.BinOp a op b pos) m (fBin g f f') := PE.imp (pe_op ho ha hb) fun _ _ _ q => tD_bin hr q
theorem de_cmp {X : Cx} {a b : Expr} {op : CmpOp} {pos : Pos} {m m1 m2 : Mode} {r : R2} {g : D → D → (D → Prop) → Prop} {f f' : FE} (ho : OpR X (compareOp op) r) (hr : Op2 X.K r m1 m2 m g) (ha : DE X B a m1 f) (hb : DE X B b m2 f') (hm : behindInMarks op b = false) :
    DE X B (.Compare a [op] [b] pos) m (fBin g f f') := PE.imp (pe_cmpR ho ha hb hm) fun _ _ _ q => tD_bin hr q
theorem de_ix {X : Cx} {a b : Expr} {pos : Pos} {m m1 m2 : Mode} {r : R2} {g : D → D → (D → Prop) → Prop} {f f' : FE} (ho : IxR X r) (hr : Op2 X.K r m1 m2 m g) (ha : DE X B a m1 f) (hb : DE X B b m2 f') (hs : PlainIx b) :
    DE X B (.Subscript a b pos) m (fBin g f f') := PE.imp (pe_ix ho ha hb hs) fun _ _ _ q => tD_bin hr q

/-! ### another mode -/
section
variable {K : PySem.W.Frag} {B A : List Addr} {F H : Hp} {m : Mode} {R : D → Prop} {Q : VK}
theorem Post.rd (k : Post K B A F H .rd R Q) : Post K B A F H m R Q := fun F' H' v d fp s hv ho hn hR =>
  k F' H' v d [] s ⟨hv.rd s.wf fun a ha => (ho a ha).2.2, rfl⟩ (fun a ha => by cases ha) List.nodup_nil hR
theorem Post.bor0 (k : Post K B A F H (.own 0) R Q) : Post K B A F H (.bor 0) R Q := fun F' H' v d fp s hv ho hn hR => by
  obtain ⟨⟨f, h, hf⟩, e⟩ := hv
  exact k F' H' v d [] s ⟨h.1, rfl⟩ (fun a ha => by cases ha) List.nodup_nil hR
theorem mut_er {o : HO} (m : Mut (some o)) : erO o = o := by cases o <;> first | rfl | exact m.elim
theorem Post.frz {n : Nat} (k : Post K B A F H (.own 0) R Q) : Post K B A F H (.own n) R Q := fun F' H' v d fp s hv ho hn hR => by
  have hv : Own K F' H' n v d fp := hv
  have sF : Same F' (fun a => if a ∈ fp then H' a else F' a) := fun a u e => by
    show (if a ∈ fp then H' a else F' a) = some u
    by_cases ha : a ∈ fp
    · rw [(ho a ha).2.1] at e; cases e
    · rw [if_neg ha]; exact e
  refine k (fun a => if a ∈ fp then H' a else F' a) H' v d [] ⟨s.same, fun a u e => sF a u (s.fs a u e), fun a u e => ?_, ⟨fun a u e => ?_, s.wf.lock, s.wf.bag⟩⟩ ⟨?_, rfl⟩ (fun a ha => by cases ha) List.nodup_nil hR
  · by_cases ha : a ∈ fp
    · rcases (ho a ha).1 with z | z
      · exact .inr (.inr (.inr z))
      · exact .inr (.inl z)
    · rw [if_neg ha] at e
      exact s.fresh a u e
  · by_cases ha : a ∈ fp
    · rw [if_pos ha] at e
      obtain ⟨o, eo, mu⟩ := hv.there a ha
      rw [eo] at e
      cases e
      exact rdH_of (ho a ha).2.2 eo (mut_er mu)
    · rw [if_neg ha] at e
      exact s.wf.sub a u e
  · refine hv.toR sF fun a ha o e _ => ?_
    show (if a ∈ fp then H' a else F' a) = some o
    rw [if_pos ha]; exact e
/-- .. with all tuples -/
def addT (F G : Hp) : Hp := fun a => match F a with
  | some u => some u
  | none => match G a with
    | some (.tup vs) => some (.tup vs)
    | _ => none
theorem addT_left {F G : Hp} : Same F (addT F G) := fun a u e => by unfold addT; rw [e]
theorem addT_tup {F G : Hp} (s : Same F G) {a : Addr} {vs : List V} (h : G a = some (.tup vs)) : addT F G a = some (.tup vs) := by
  unfold addT
  cases q : F a with
  | none => rw [h]
  | some u => rw [s a u q] at h; cases h; rfl
theorem addT_cases {F G : Hp} {a : Addr} {u : HO} (h : addT F G a = some u) : F a = some u ∨ (G a = some u ∧ isTup u) := by
  unfold addT at h
  split at h
  · rename_i x e; left; rw [e]; exact h
  · split at h
    · rename_i e; right; cases h; exact ⟨e, trivial⟩
    · cases h
theorem Step.addT {F' H' : Hp} (s : Step B A F H F' H') : Step B A F H (addT F' (rdH B H')) H' :=
  ⟨s.same, fun a u e => addT_left a u (s.fs a u e), fun a u e => (addT_cases e).elim (s.fresh a u) fun z => .inr (.inr (.inl z.2)), ⟨fun a u e => (addT_cases e).elim (s.wf.sub a u) fun z => z.1, s.wf.lock, s.wf.bag⟩⟩
theorem Post.flat (k : Post K B A F H (.own 0) R Q) : Post K B A F H .rd (fun d => d.flat = true ∧ R d) Q := fun F' H' v d fp s hv ho hn hR =>
  k _ H' v d [] s.addT ⟨hv.1.flat (fun a vs e => addT_tup s.wf.sub e) hR.1, rfl⟩ (fun a ha => by cases ha) List.nodup_nil hR.2
end
abbrev fFlat (f : FE) : FE := fun ρ R => f ρ fun d => d.flat = true ∧ R d
section
variable {X : Cx} {e : Expr} {m : Mode} {f : FE}
theorem de_rd (h : DE X B e m f) : DE X B e .rd f := PE.imp h fun _ _ _ ⟨F, ρ, fp, R, S, hf, k⟩ => ⟨F, ρ, fp, R, S, hf, k.rd⟩
theorem de_frz {n : Nat} (h : DE X B e (.own n) f) : DE X B e (.own 0) f := PE.imp h fun _ _ _ ⟨F, ρ, fp, R, S, hf, k⟩ => ⟨F, ρ, fp, R, S, hf, k.frz⟩
theorem de_bor0 (h : DE X B e (.bor 0) f) : DE X B e (.own 0) f := PE.imp h fun _ _ _ ⟨F, ρ, fp, R, S, hf, k⟩ => ⟨F, ρ, fp, R, S, hf, k.bor0⟩
theorem de_flat (h : DE X B e m f) : DE X B e (.own 0) (fFlat f) := PE.imp (de_rd h) fun _ _ _ ⟨F, ρ, fp, R, S, hf, k⟩ => ⟨F, ρ, fp, _, S, hf, k.flat⟩
end

/-! ### names, constants -/
def slot : Env → Nat → Option (Nat × D)
  | [], _ => none
  | o :: _, 0 => o
  | _ :: r, i + 1 => slot r i
def fVar (i n : Nat) : FE := fun ρ R => match slot ρ i with
  | some (k, d) => k = n ∧ R d
  | none => False
theorem OwnE.slot {K : PySem.W.Frag} {F H : Hp} : ∀ {σ : L2.St} {ρ : Env} {fp : List Addr} {i n : Nat} {d : D}, OwnE K F H σ ρ fp → GK.slot ρ i = some (n, d) → ∃ v f, σ[i]? = some (some v) ∧ Own K F H n v d f ∧ ∀ a ∈ f, a ∈ fp
  | [], [], _, i, n, d, h, e => by cases e
  | _ :: σ, none :: ρ, fp, 0, n, d, h, e => by cases e
  | _ :: σ, none :: ρ, fp, i + 1, n, d, h, e => by
    obtain ⟨v, f, e1, e2, e3⟩ := OwnE.slot (σ := σ) (ρ := ρ) (i := i) h e
    exact ⟨v, f, e1, e2, e3⟩
  | some v :: σ, some (n, d) :: ρ, fp, 0, n', d', ⟨f1, f2, ef, h, t⟩, e => by
    cases e
    exact ⟨v, f1, rfl, h, fun a ha => by rw [ef]; exact List.mem_append_left _ ha⟩
  | some v :: σ, some (n, d) :: ρ, fp, i + 1, n', d', ⟨f1, f2, ef, h, t⟩, e => by
    obtain ⟨v, f, e1, e2, e3⟩ := OwnE.slot (σ := σ) (ρ := ρ) (i := i) t e
    exact ⟨v, f, e1, e2, fun a ha => by rw [ef]; exact List.mem_append_right _ (e3 a ha)⟩
section
variable {X : Cx} {pos : Pos} {m : Mode}
theorem de_var (i n : Nat) {x : Str} (hN : X.N[i]? = some x := by rfl) (hv : Vis X.env.scope x := by first | exact Or.inl rfl | exact Or.inr (Or.inl rfl) | exact Or.inr (Or.inr rfl)) (hd : (x == ("__debug__" : Str)) = false := by decide)
    (hcd : (x == ("__classdict__" : Str)) = false := by decide) : DE X B (.Name x pos) (.bor n) (fVar i n) :=
  PE.imp (pe_var hN hv hd hcd) fun σ H Q ⟨F, ρ, fp, R, S, hf, k⟩ => by
    unfold fVar at hf
    cases q : slot ρ i with
    | none => rw [q] at hf; exact hf.elim
    | some p =>
      obtain ⟨n', d⟩ := p
      rw [q] at hf
      obtain ⟨rfl, hR⟩ := hf
      obtain ⟨v, f, e1, e2, e3⟩ := S.own.slot q
      exact ⟨v, e1, k F H v d [] (Step.refl S.wf) ⟨⟨f, e2, fun a ha => (S.out a (e3 a ha)).2.1⟩, rfl⟩ (fun a ha => by cases ha) List.nodup_nil hR⟩
theorem de_v (i : Nat) {x : Str} (hN : X.N[i]? = some x := by rfl) (hv : Vis X.env.scope x := by first | exact Or.inl rfl | exact Or.inr (Or.inl rfl) | exact Or.inr (Or.inr rfl)) (hd : (x == ("__debug__" : Str)) = false := by decide)
    (hcd : (x == ("__classdict__" : Str)) = false := by decide) : DE X B (.Name x pos) (.own 0) (fVar i 0) := de_bor0 (de_var i 0 hN hv hd hcd)
theorem de_int {i : Int} {j} : DE X B (.Constant (.int i) j pos) m (fun _ R => R (.int i)) := PE.imp pe_int fun _ _ _ ⟨F, ρ, fp, R, S, hf, k⟩ => k.int S.wf hf
theorem de_bl {b : Bool} {j} : DE X B (.Constant (.bool b) j pos) m (fun _ R => R (.bl b)) := PE.imp pe_bl fun _ _ _ ⟨F, ρ, fp, R, S, hf, k⟩ => k.bl S.wf hf
theorem de_non {j} : DE X B (.Constant .none j pos) m (fun _ R => R .non) := PE.imp pe_non fun _ _ _ ⟨F, ρ, fp, R, S, hf, k⟩ => k.non S.wf hf
theorem de_str {x : Str} {j} : DE X B (.Constant (.str x) j pos) m (fun _ R => R (.str x)) := PE.imp pe_str fun _ _ _ ⟨F, ρ, fp, R, S, hf, k⟩ => k.str S.wf hf
end
end GK

namespace GK
open PySem PySem.Spec PyProof.Rows L2

/-! ### what a value is -/
section
variable {K : PySem.W.Frag} {B A : List Addr} {F H : Hp} {m : Mode} {fp : List Addr} {v : V}
theorem Val.atomR {d : D} (ha : atomD d = true) (h : Val K m B F H v d fp) : (∃ G, R K G v d) ∧ fp = [] := by
  cases m with
  | rd => exact ⟨⟨_, h.1⟩, h.2⟩
  | bor n =>
    obtain ⟨⟨f, h, _⟩, e⟩ := h
    refine ⟨?_, e⟩
    cases n with
    | zero => exact ⟨_, h.1⟩
    | succ n => cases d <;> first | exact ⟨_, h.1⟩ | (cases ha)
  | own n =>
    cases n with
    | zero => exact ⟨⟨_, h.1⟩, h.2⟩
    | succ n => cases d <;> first | exact ⟨⟨_, h.1⟩, h.2⟩ | (cases ha)
theorem Val.int {i : Int} (h : Val K m B F H v (.int i) fp) : v = .int i ∧ fp = [] := by
  obtain ⟨⟨G, h⟩, e⟩ := h.atomR rfl
  cases h
  exact ⟨rfl, e⟩
theorem Val.str {i : Str} (h : Val K m B F H v (.str i) fp) : v = .str i ∧ fp = [] := by
  obtain ⟨⟨G, h⟩, e⟩ := h.atomR rfl
  cases h
  exact ⟨rfl, e⟩
theorem Val.bl {i : Bool} (h : Val K m B F H v (.bl i) fp) : v = .bl i ∧ fp = [] := by
  obtain ⟨⟨G, h⟩, e⟩ := h.atomR rfl
  cases h
  exact ⟨rfl, e⟩
theorem Val.non (h : Val K m B F H v .non fp) : v = .non ∧ fp = [] := by
  obtain ⟨⟨G, h⟩, e⟩ := h.atomR rfl
  cases h
  exact ⟨rfl, e⟩
/-- the mode of what is within -/
def Mode.child : Mode → Mode
  | .rd => .rd
  | .bor 0 => .bor 0
  | .bor (n + 1) => .bor n
  | .own _ => .own 0
/-- what may be looked into -/
def Mode.look : Mode → Bool
  | .rd => true
  | .bor _ => true
  | .own 0 => true
  | .own _ => false
theorem OwnL.get {P : V → D → List Addr → Prop} : ∀ {vs : List V} {ds : List D} {f : List Addr}, OwnL P vs ds f → ∀ {i : Nat} {d : D}, ds[i]? = some d → ∃ x g, vs[i]? = some x ∧ P x d g ∧ ∀ a ∈ g, a ∈ f
  | [], [], _, _, i, d, e => by simp at e
  | v :: vs, d :: ds, fp, ⟨f1, f2, e, h, t⟩, 0, d', e' => by
    have e2 : d = d' := Option.some.inj e'
    subst e2
    exact ⟨v, f1, rfl, h, fun a ha => by rw [e]; exact List.mem_append_left _ ha⟩
  | v :: vs, d :: ds, fp, ⟨f1, f2, e, h, t⟩, i + 1, d', e' => by
    obtain ⟨x, g, h1, h2, h3⟩ := OwnL.get t (i := i) (d := d') e'
    exact ⟨x, g, h1, h2, fun a ha => by rw [e]; exact List.mem_append_right _ (h3 a ha)⟩
theorem OwnL.len {P : V → D → List Addr → Prop} : ∀ {vs : List V} {ds : List D} {f : List Addr}, OwnL P vs ds f → vs.length = ds.length
  | [], [], _, _ => rfl
  | v :: vs, d :: ds, fp, ⟨f1, f2, e, h, t⟩ => by rw [List.length_cons, List.length_cons, OwnL.len t]
/-- the items -/
def Items (K : PySem.W.Frag) (m : Mode) (B : List Addr) (F H : Hp) (vs : List V) (ds : List D) : Prop :=
  vs.length = ds.length ∧ ∀ (i : Nat) (d : D), ds[i]? = some d → ∃ x, vs[i]? = some x ∧ Val K m B F H x d []
theorem Items.of_RLrd {vs : List V} {ds : List D} (r : RL K (rdH B H) vs ds) : Items K .rd B F H vs ds := ⟨r.length, fun i d e => by
  obtain ⟨x, h1, h2⟩ := r.get e
  exact ⟨x, h1, h2, rfl⟩⟩
theorem Items.of_RL {vs : List V} {ds : List D} (r : RL K F vs ds) : Items K (.own 0) B F H vs ds := ⟨r.length, fun i d e => by
  obtain ⟨x, h1, h2⟩ := r.get e
  exact ⟨x, h1, h2, rfl⟩⟩
theorem Items.of_RLb {vs : List V} {ds : List D} (r : RL K F vs ds) : Items K (.bor 0) B F H vs ds := ⟨r.length, fun i d e => by
  obtain ⟨x, h1, h2⟩ := r.get e
  exact ⟨x, h1, ⟨[], ⟨h2, rfl⟩, fun a h => (by cases h)⟩, rfl⟩⟩
theorem Items.of_Own {n : Nat} {vs : List V} {ds : List D} {f : List Addr} (r : OwnL (Own K F H n) vs ds f) (hf : ∀ a ∈ f, a ∉ B) : Items K (.bor n) B F H vs ds := ⟨r.len, fun i d e => by
  obtain ⟨x, g, h1, h2, h3⟩ := r.get e
  exact ⟨x, h1, ⟨g, h2, fun a ha => hf a (h3 a ha)⟩, rfl⟩⟩
theorem lst_sub (w : WF B F H) {a : Addr} {vs : List V} (h : F a = some (.lst vs)) : SqL K H a vs := .inl (rd_of_rdH (w.sub _ _ h))
theorem tup_sub (w : WF B F H) {a : Addr} {vs : List V} (h : F a = some (.tup vs)) : SqT K H a vs := .inl (rd_of_rdH (w.sub _ _ h))
theorem R.lstI {G : Hp} {ds : List D} (h : R K G v (.lst ds)) : ∃ a vs, v = .ref a ∧ G a = some (.lst vs) ∧ RL K G vs ds := by
  cases h with | lst h r => exact ⟨_, _, rfl, h, r⟩
theorem R.tupI {G : Hp} {ds : List D} (h : R K G v (.tup ds)) : ∃ a vs, v = .ref a ∧ G a = some (.tup vs) ∧ RL K G vs ds := by
  cases h with | tup h r => exact ⟨_, _, rfl, h, r⟩
theorem R.dKI {G : Hp} {es : List (Key × D)} (h : R K G v (.dK es)) : ∃ a kvs, v = .ref a ∧ G a = some (.dK kvs) ∧ kvs.map (·.1) = es.map (·.1) ∧ RL K G (kvs.map (·.2)) (es.map (·.2)) := by
  cases h with | dK h hk r => exact ⟨_, _, rfl, h, hk, r⟩
theorem R.dTI {G : Hp} {es : List (List Key × D)} (h : R K G v (.dT es)) : ∃ a kvs, v = .ref a ∧ G a = some (.dT kvs) ∧ kvs.map (·.1) = es.map (·.1) ∧ RL K G (kvs.map (·.2)) (es.map (·.2)) := by
  cases h with | dT h hk r => exact ⟨_, _, rfl, h, hk, r⟩
theorem R.objI {G : Hp} {C : Addr} {es : List (Str × D)} (h : R K G v (.obj C es)) : ∃ a dx fs, v = .ref a ∧ G a = some (.ins C dx fs) ∧ fs.map (·.1) = es.map (·.1) ∧ RL K G (fs.map (·.2)) (es.map (·.2)) := by
  cases h with | obj h hk r => exact ⟨_, _, _, rfl, h, hk, r⟩
theorem Val.lst {ds : List D} (hm : m.look = true) (w : WF B F H) (h : Val K m B F H v (.lst ds) fp) : fp = [] ∧ ∃ a vs, v = .ref a ∧ SqL K H a vs ∧ Items K m.child B F H vs ds := by
  cases m with
  | rd =>
    obtain ⟨a, vs, e, h1, r⟩ := h.1.lstI
    exact ⟨h.2, a, vs, e, sqL_rd h1, .of_RLrd r⟩
  | bor n =>
    obtain ⟨⟨f, h, hf⟩, e0⟩ := h
    refine ⟨e0, ?_⟩
    cases n with
    | zero =>
      obtain ⟨a, vs, e, h1, r⟩ := h.1.lstI
      exact ⟨a, vs, e, lst_sub w h1, .of_RLb r⟩
    | succ n =>
      obtain ⟨a, vs, g, e, h1, ef, t⟩ := h
      exact ⟨a, vs, e, SqL.of h1, .of_Own t fun b hb => hf b (by rw [ef]; exact List.mem_cons_of_mem _ hb)⟩
  | own n =>
    cases n with
    | zero =>
      obtain ⟨a, vs, e, h1, r⟩ := h.1.lstI
      exact ⟨h.2, a, vs, e, lst_sub w h1, .of_RL r⟩
    | succ n => cases hm
theorem Val.tup {ds : List D} (hm : m.look = true) (w : WF B F H) (h : Val K m B F H v (.tup ds) fp) : fp = [] ∧ ∃ a vs, v = .ref a ∧ SqT K H a vs ∧ Items K m.child B F H vs ds := by
  cases m with
  | rd =>
    obtain ⟨a, vs, e, h1, r⟩ := h.1.tupI
    exact ⟨h.2, a, vs, e, sqT_rd h1, .of_RLrd r⟩
  | bor n =>
    obtain ⟨⟨f, h, hf⟩, e0⟩ := h
    refine ⟨e0, ?_⟩
    cases n with
    | zero =>
      obtain ⟨a, vs, e, h1, r⟩ := h.1.tupI
      exact ⟨a, vs, e, tup_sub w h1, .of_RLb r⟩
    | succ n =>
      obtain ⟨a, vs, e, h1, t⟩ := h
      exact ⟨a, vs, e, tup_sub w h1, .of_Own t hf⟩
  | own n =>
    cases n with
    | zero =>
      obtain ⟨a, vs, e, h1, r⟩ := h.1.tupI
      exact ⟨h.2, a, vs, e, tup_sub w h1, .of_RL r⟩
    | succ n => cases hm
theorem Val.dK {es : List (Key × D)} (hm : m.look = true) (w : WF B F H) (h : Val K m B F H v (.dK es) fp) : fp = [] ∧ ∃ a kvs, v = .ref a ∧ Rd H a (.dK kvs) ∧ kvs.map (·.1) = es.map (·.1) ∧ Items K m.child B F H (kvs.map (·.2)) (es.map (·.2)) := by
  cases m with
  | rd =>
    obtain ⟨a, vs, e, h1, hk, r⟩ := h.1.dKI
    exact ⟨h.2, a, vs, e, rd_of_rdH h1, hk, .of_RLrd r⟩
  | bor n =>
    obtain ⟨⟨f, h, hf⟩, e0⟩ := h
    refine ⟨e0, ?_⟩
    cases n with
    | zero =>
      obtain ⟨a, vs, e, h1, hk, r⟩ := h.1.dKI
      exact ⟨a, vs, e, rd_of_rdH (w.sub _ _ h1), hk, .of_RLb r⟩
    | succ n =>
      obtain ⟨a, vs, g, e, h1, ef, hk, t⟩ := h
      exact ⟨a, vs, e, .inl h1, hk, .of_Own t fun b hb => hf b (by rw [ef]; exact List.mem_cons_of_mem _ hb)⟩
  | own n =>
    cases n with
    | zero =>
      obtain ⟨a, vs, e, h1, hk, r⟩ := h.1.dKI
      exact ⟨h.2, a, vs, e, rd_of_rdH (w.sub _ _ h1), hk, .of_RL r⟩
    | succ n => cases hm
theorem Val.dT {es : List (List Key × D)} (hm : m.look = true) (w : WF B F H) (h : Val K m B F H v (.dT es) fp) : fp = [] ∧ ∃ a kvs, v = .ref a ∧ Rd H a (.dT kvs) ∧ kvs.map (·.1) = es.map (·.1) ∧ Items K m.child B F H (kvs.map (·.2)) (es.map (·.2)) := by
  cases m with
  | rd =>
    obtain ⟨a, vs, e, h1, hk, r⟩ := h.1.dTI
    exact ⟨h.2, a, vs, e, rd_of_rdH h1, hk, .of_RLrd r⟩
  | bor n =>
    obtain ⟨⟨f, h, hf⟩, e0⟩ := h
    refine ⟨e0, ?_⟩
    cases n with
    | zero =>
      obtain ⟨a, vs, e, h1, hk, r⟩ := h.1.dTI
      exact ⟨a, vs, e, rd_of_rdH (w.sub _ _ h1), hk, .of_RLb r⟩
    | succ n =>
      obtain ⟨a, vs, g, e, h1, ef, hk, t⟩ := h
      exact ⟨a, vs, e, .inl h1, hk, .of_Own t fun b hb => hf b (by rw [ef]; exact List.mem_cons_of_mem _ hb)⟩
  | own n =>
    cases n with
    | zero =>
      obtain ⟨a, vs, e, h1, hk, r⟩ := h.1.dTI
      exact ⟨h.2, a, vs, e, rd_of_rdH (w.sub _ _ h1), hk, .of_RL r⟩
    | succ n => cases hm
/-- an instance is never locked -/
theorem ins_of (w : WF B F H) {a C dx : Addr} {fs : List (Str × V)} (h : rdH B H a = some (.ins C dx fs)) : H a = some (.ins C dx fs) := by
  obtain ⟨hb, x, e, n⟩ := rdH_some h
  cases x <;> first | (rw [e]; exact congrArg some n) | skip
  rename_i o u
  have := w.lock a o u hb e
  have n' : u = .ins C dx fs := n
  rw [n'] at this
  exact this.elim
theorem tup_of (w : WF B F H) {a : Addr} {vs : List V} (h : rdH B H a = some (.tup vs)) : H a = some (.tup vs) := by
  obtain ⟨hb, x, e, n⟩ := rdH_some h
  cases x <;> first | (rw [e]; exact congrArg some n) | skip
  rename_i o u
  have := w.lock a o u hb e
  have n' : u = .tup vs := n
  rw [n'] at this
  exact this.elim
theorem lst_of (w : WF B F H) {a : Addr} {vs : List V} (h : rdH B H a = some (.lst vs)) : H a = some (.lst vs) := by
  obtain ⟨hb, x, e, n⟩ := rdH_some h
  cases x <;> first | (rw [e]; exact congrArg some n) | skip
  rename_i o u
  have := w.lock a o u hb e
  have n' : u = .lst vs := n
  rw [n'] at this
  exact this.elim
theorem Val.obj {C : Addr} {es : List (Str × D)} (hm : m.look = true) (w : WF B F H) (h : Val K m B F H v (.obj C es) fp) : fp = [] ∧ ∃ a dx fs, v = .ref a ∧ H a = some (.ins C dx fs) ∧ fs.map (·.1) = es.map (·.1) ∧ Items K m.child B F H (fs.map (·.2)) (es.map (·.2)) := by
  cases m with
  | rd =>
    obtain ⟨a, dx, vs, e, h1, hk, r⟩ := h.1.objI
    exact ⟨h.2, a, dx, vs, e, ins_of w h1, hk, .of_RLrd r⟩
  | bor n =>
    obtain ⟨⟨f, h, hf⟩, e0⟩ := h
    refine ⟨e0, ?_⟩
    cases n with
    | zero =>
      obtain ⟨a, dx, vs, e, h1, hk, r⟩ := h.1.objI
      exact ⟨a, dx, vs, e, ins_of w (w.sub _ _ h1), hk, .of_RLb r⟩
    | succ n =>
      obtain ⟨a, dx, vs, g, e, h1, ef, hk, t⟩ := h
      exact ⟨a, dx, vs, e, h1, hk, .of_Own t fun b hb => hf b (by rw [ef]; exact List.mem_cons_of_mem _ hb)⟩
  | own n =>
    cases n with
    | zero =>
      obtain ⟨a, dx, vs, e, h1, hk, r⟩ := h.1.objI
      exact ⟨h.2, a, dx, vs, e, ins_of w (w.sub _ _ h1), hk, .of_RL r⟩
    | succ n => cases hm
/-- something of a mode comes that owns nothing new -/
theorem Post.val {R : D → Prop} {Q : VK} {d : D} (k : Post K B A F H m R Q) (w : WF B F H) (h : Val K m B F H v d []) (q : R d) : Q v H :=
  k F H v d [] (Step.refl w) h (fun a h => (by cases h)) List.nodup_nil q
end

/-! ### ints -/
def g2I (c : Int → Int → Prop) (h : Int → Int → D) : D → D → (D → Prop) → Prop
  | .int i, .int j, R => c i j ∧ R (h i j)
  | _, _, _ => False
def g2I0 (h : Int → Int → D) : D → D → (D → Prop) → Prop
  | .int i, .int j, R => R (h i j)
  | _, _, _ => False
def g1I (h : Int → D) : D → (D → Prop) → Prop
  | .int i, R => R (h i)
  | _, _ => False
section
variable {K : PySem.W.Frag} {m m1 m2 : Mode}
theorem op2I {c : Int → Int → Prop} {h : Int → Int → Int} : Op2 K (rI c fun i j => .int (h i j)) m1 m2 m (g2I c fun i j => .int (h i j)) := by
  intro B F H x y d e fp R Q w ⟨f1, f2, ef, h1, h2⟩ _ hg k
  cases d <;> try exact hg.elim
  cases e <;> try exact hg.elim
  obtain ⟨rfl, rfl⟩ := h1.int
  obtain ⟨rfl, rfl⟩ := h2.int
  exact ⟨_, _, rfl, rfl, hg.1, k.int w hg.2⟩
theorem op2I0 {h : Int → Int → Int} : Op2 K (rI0 fun i j => .int (h i j)) m1 m2 m (g2I0 fun i j => .int (h i j)) := by
  intro B F H x y d e fp R Q w ⟨f1, f2, ef, h1, h2⟩ _ hg k
  cases d <;> try exact hg.elim
  cases e <;> try exact hg.elim
  obtain ⟨rfl, rfl⟩ := h1.int
  obtain ⟨rfl, rfl⟩ := h2.int
  exact ⟨_, _, rfl, rfl, k.int w hg⟩
theorem op2B0 {h : Int → Int → Bool} : Op2 K (rI0 fun i j => .bl (h i j)) m1 m2 m (g2I0 fun i j => .bl (h i j)) := by
  intro B F H x y d e fp R Q w ⟨f1, f2, ef, h1, h2⟩ _ hg k
  cases d <;> try exact hg.elim
  cases e <;> try exact hg.elim
  obtain ⟨rfl, rfl⟩ := h1.int
  obtain ⟨rfl, rfl⟩ := h2.int
  exact ⟨_, _, rfl, rfl, k.bl w hg⟩
theorem op1I {h : Int → Int} : Op1 K (rU fun i => .int (h i)) m1 m (g1I fun i => .int (h i)) := by
  intro B F H x d fp R Q w h1 _ hg k
  cases d <;> try exact hg.elim
  obtain ⟨rfl, rfl⟩ := h1.int
  exact ⟨_, rfl, k.int w hg⟩
end
section
variable {X : Cx} {a b : Expr} {pos : Pos} {m m1 m2 : Mode} {f f' : FE}
abbrev gAddI := g2I0 fun i j => D.int (i + j)
abbrev gSubI := g2I0 fun i j => D.int (i - j)
abbrev gMulI := g2I CMul fun i j => D.int (i * j)
abbrev gDivI := g2I CDiv fun i j => D.int (i / j)
abbrev gModI := g2I (fun _ j => 0 < j) fun i j => D.int (i % j)
abbrev gNegI := g1I fun i => D.int (-i)
abbrev gLt := g2I0 fun i j => D.bl (decide (i < j))
abbrev gLe := g2I0 fun i j => D.bl (decide (i ≤ j))
abbrev gGt := g2I0 fun i j => D.bl (decide (j < i))
abbrev gGe := g2I0 fun i j => D.bl (decide (j ≤ i))
theorem de_add (ha : DE X B a m1 f) (hb : DE X B b m2 f') : DE X B (.BinOp a .Add b pos) m (fBin gAddI f f') := de_op op_add op2I0 ha hb
theorem de_sub (ha : DE X B a m1 f) (hb : DE X B b m2 f') : DE X B (.BinOp a .Sub b pos) m (fBin gSubI f f') := de_op op_sub op2I0 ha hb
theorem de_mul (ha : DE X B a m1 f) (hb : DE X B b m2 f') : DE X B (.BinOp a .Mult b pos) m (fBin gMulI f f') := de_op op_mul op2I ha hb
theorem de_div (ha : DE X B a m1 f) (hb : DE X B b m2 f') : DE X B (.BinOp a .FloorDiv b pos) m (fBin gDivI f f') := de_op op_fdiv op2I ha hb
theorem de_mod (ha : DE X B a m1 f) (hb : DE X B b m2 f') : DE X B (.BinOp a .Mod b pos) m (fBin gModI f f') := de_op op_mod op2I ha hb
theorem de_neg (ha : DE X B a m1 f) : DE X B (.UnaryOp .USub a pos) m (fUn gNegI f) := de_un un_neg op1I ha
theorem de_lt (ha : DE X B a m1 f) (hb : DE X B b m2 f') : DE X B (.Compare a [.Lt] [b] pos) m (fBin gLt f f') := de_cmp op_lt op2B0 ha hb (nomark _)
theorem de_le (ha : DE X B a m1 f) (hb : DE X B b m2 f') : DE X B (.Compare a [.LtE] [b] pos) m (fBin gLe f f') := de_cmp op_le op2B0 ha hb (nomark _)
theorem de_gt (ha : DE X B a m1 f) (hb : DE X B b m2 f') : DE X B (.Compare a [.Gt] [b] pos) m (fBin gGt f f') := de_cmp op_gt op2B0 ha hb (nomark _)
theorem de_ge (ha : DE X B a m1 f) (hb : DE X B b m2 f') : DE X B (.Compare a [.GtE] [b] pos) m (fBin gGe f f') := de_cmp op_ge op2B0 ha hb (nomark _)
end
end GK

namespace GK
open PySem PySem.Spec PyProof.Rows L2

/-! ### new objects -/
section
variable {K : PySem.W.Frag} {B A : List Addr} {F H H' : Hp} {p : Addr} {o : HO}
theorem BagOk.keep (b : BagOk B H) (s : ∀ a ∈ B, ∀ o, H a = some o → H' a = some o) : BagOk B H' := by
  rcases b with e | ⟨b, c, l, ts, cells, left, turn, e, h0, h1, h2, h3, r⟩
  · exact .inl e
  · refine .inr ⟨b, c, l, ts, cells, left, turn, e, fun t ht => ?_, s b ?_ _ h1, s c ?_ _ h2, s l ?_ _ h3, r⟩
    · obtain ⟨o, xs, q⟩ := h0 t ht
      exact ⟨o, xs, s t (by rw [e]; simp [ht]) _ q⟩
    all_goals (rw [e]; simp)
theorem BagOk.there (b : BagOk B H) {a : Addr} (h : a ∈ B) : ∃ o, H a = some o ∧ ¬ isTup o := by
  rcases b with e | ⟨b, c, l, ts, cells, left, turn, e, h0, h1, h2, h3, r⟩
  · rw [e] at h; cases h
  · rw [e] at h
    simp only [List.mem_cons] at h
    rcases h with rfl | rfl | rfl | h
    · exact ⟨_, h1, fun z => z⟩
    · exact ⟨_, h2, fun z => z⟩
    · exact ⟨_, h3, fun z => z⟩
    · obtain ⟨o, xs, q⟩ := h0 a h
      exact ⟨_, q, fun z => z⟩
theorem WF.notB (w : WF B F H) (hp : H p = none) : p ∉ B := fun h => by
  obtain ⟨o, e, _⟩ := w.bag.there h
  rw [hp] at e; cases e
theorem same_upd (hp : H p = none) : ∀ a u, H a = some u → upd H p o a = some u := fun a u e => by rw [upd_ne (ne_of_none e hp)]; exact e
theorem F_none (w : WF B F H) (hp : H p = none) : F p = none := by
  cases q : F p with
  | none => rfl
  | some u =>
    obtain ⟨_, x, e, _⟩ := rdH_some (w.sub p u q)
    rw [hp] at e; cases e
theorem WF.laid (w : WF B F H) (hp : H p = none) (ho : erO o = o) : WF B F (upd H p o) :=
  ⟨fun a u e => rdH_same (fun a u _ h => same_upd hp a u h) a u (w.sub a u e), fun a ob u hb e => by
    by_cases h : a = p
    · subst h
      rw [upd_same] at e
      have e' : o = .frz ob u := Option.some.inj e
      rw [e'] at ho
      have z : u = .frz ob u := ho
      have : sizeOf u = sizeOf (HO.frz ob u) := congrArg sizeOf z
      simp at this
    · rw [upd_ne h] at e; exact w.lock a ob u hb e, w.bag.keep fun a _ u h => same_upd hp a u h⟩
theorem WF.laidF (w : WF B F H) (hp : H p = none) (ho : erO o = o) : WF B (upd F p o) (upd H p o) :=
  ⟨fun a u e => by
    by_cases h : a = p
    · subst h
      rw [upd_same] at e
      cases e
      exact rdH_of (w.notB hp) upd_same ho
    · rw [upd_ne h] at e
      exact (w.laid hp ho).sub a u e, (w.laid hp ho).lock, (w.laid hp ho).bag⟩
theorem Step.laid (w : WF B F H) (hp : H p = none) (ho : erO o = o) : Step B A F H F (upd H p o) :=
  ⟨fun a u _ h => same_upd hp a u h, fun _ _ h => h, fun _ _ h => .inl h, w.laid hp ho⟩
theorem Step.laidF (w : WF B F H) (hp : H p = none) (ho : erO o = o) : Step B A F H (upd F p o) (upd H p o) :=
  ⟨fun a u _ h => same_upd hp a u h, fun a u h => by rw [upd_ne (ne_of_none h (F_none w hp))]; exact h, fun a u h => by
    by_cases e : a = p
    · subst e; exact .inr (.inl hp)
    · rw [upd_ne e] at h; exact .inl h, w.laidF hp ho⟩
theorem erO_of_isTup {vs : List V} : erO (.tup vs) = .tup vs := rfl
theorem OwnL.zero {vs : List V} {ds : List D} (r : RL K F vs ds) : OwnL (Own K F H 0) vs ds [] := by
  cases r with
  | nil => rfl
  | cons h t => exact ⟨[], [], rfl, ⟨h, rfl⟩, OwnL.zero t⟩
termination_by ds.length
variable {R : D → Prop} {Q : VK} {n : Nat} {vs : List V} {ds : List D} {f : List Addr}
/-- a new list of what is owned -/
theorem Post.newLst (k : Post K B A F H (.own (n + 1)) R Q) (w : WF B F H) (hf : Fp B F f) (hA : ∀ a ∈ f, a ∈ A) (h : OwnL (Own K F H n) vs ds f) (q : R (.lst ds)) (hp : H p = none) : Q (.ref p) (upd H p (.lst vs)) := by
  have hf1 : ∀ a ∈ f, ∃ o, H a = some o ∧ Mut (some o) := h.there fun v d f q => Own.there q
  refine k F _ _ (.lst ds) (p :: f) (Step.laid w hp rfl) ⟨p, vs, f, rfl, upd_same, rfl, h.imp fun v d g hg => Own.mono (fun _ _ h => h) fun a _ o e => same_upd hp a o e⟩ (fun a ha => ?_) ?_ q
  · rcases List.mem_cons.mp ha with z | z
    · rw [z]; exact ⟨.inr hp, F_none w hp, w.notB hp⟩
    · exact ⟨.inl (hA a z), hf.1 a z⟩
  · refine List.nodup_cons.mpr ⟨fun z => ?_, hf.2⟩
    obtain ⟨o, e, _⟩ := hf1 p z
    rw [hp] at e; cases e
theorem Post.newLst0 (k : Post K B A F H (.own 1) R Q) (w : WF B F H) (h : RL K F vs ds) (q : R (.lst ds)) (hp : H p = none) : Q (.ref p) (upd H p (.lst vs)) :=
  k.newLst (f := []) w ⟨fun a h => (by cases h), List.nodup_nil⟩ (fun a h => (by cases h)) (OwnL.zero h) q hp
theorem Post.newTup (k : Post K B A F H (.own 0) R Q) (w : WF B F H) (h : RL K F vs ds) (q : R (.tup ds)) (hp : H p = none) : Q (.ref p) (upd H p (.tup vs)) := by
  have s := Step.laidF (A := A) w hp (o := .tup vs) rfl
  exact k _ _ _ (.tup ds) [] s ⟨.tup upd_same (h.mono s.fs), rfl⟩ (fun a h => (by cases h)) List.nodup_nil q
/-- a new tuple of what is owned -/
theorem Post.newTupN (k : Post K B A F H (.own (n + 1)) R Q) (w : WF B F H) (hf : Fp B F f) (hA : ∀ a ∈ f, a ∈ A) (h : OwnL (Own K F H n) vs ds f) (q : R (.tup ds)) (hp : H p = none) : Q (.ref p) (upd H p (.tup vs)) := by
  have hf1 : ∀ a ∈ f, ∃ o, H a = some o ∧ Mut (some o) := h.there fun v d f q => Own.there q
  have s := Step.laidF (A := A) w hp (o := .tup vs) rfl
  refine k _ _ _ (.tup ds) f s ⟨p, vs, rfl, upd_same, h.imp fun v d g hg => Own.mono s.fs fun a _ o e => same_upd hp a o e⟩ (fun a ha => ⟨.inl (hA a ha), ?_, (hf.1 a ha).2⟩) hf.2 q
  obtain ⟨o, e, _⟩ := hf1 a ha
  rw [upd_ne (ne_of_none e hp)]
  exact (hf.1 a ha).1
end

/-! ### argument lists, displays -/
section
variable {X : Cx} {e : Expr} {es : List Expr} {m : Mode} {ms : List Mode} {f : FE} {fs : FA} {pos : Pos}
theorem ValL.step {K : PySem.W.Frag} {B A : List Addr} {F H F' H' : Hp} (s : Step B A F H F' H') : ∀ {ms : List Mode} {vs : List V} {ds : List D} {fp : List Addr}, ValL K B F H ms vs ds fp → (∀ a ∈ fp, a ∉ B) → ValL K B F' H' ms vs ds fp
  | [], [], [], _, h, _ => h
  | m :: ms, v :: vs, d :: ds, fp, ⟨f1, f2, e, h, t⟩, hB => ⟨f1, f2, e, h.step s fun a ha => hB a (by rw [e]; exact List.mem_append_left _ ha), ValL.step s t fun a ha => hB a (by rw [e]; exact List.mem_append_right _ ha)⟩
theorem ValL.there {K : PySem.W.Frag} {B : List Addr} {F H : Hp} : ∀ {ms : List Mode} {vs : List V} {ds : List D} {fp : List Addr}, ValL K B F H ms vs ds fp → ∀ a ∈ fp, ∃ o, H a = some o ∧ Mut (some o)
  | [], [], [], _, h, a, ha => by rw [show _ = _ from h] at ha; cases ha
  | m :: ms, v :: vs, d :: ds, fp, ⟨f1, f2, e, h, t⟩, a, ha => by
    rw [e] at ha
    rcases List.mem_append.mp ha with z | z
    · exact h.there a z
    · exact t.there a z
theorem da_nil : DA X B [] [] fNil := PA.imp pa_nil fun σ H Q ⟨F, ρ, fp, R, S, hf, k⟩ => k F H [] [] [] (Step.refl S.wf) rfl (fun a h => (by cases h)) List.nodup_nil hf
theorem da_cons (h : DE X B e m f) (hr : DA X B es ms fs) (hs : starEach (e :: es) X.env = (false, eval e X.env) :: starEach es X.env := by rfl) : DA X B (e :: es) (m :: ms) (fCons f fs) :=
  PA.imp (pa_cons h hr hs) fun σ H Q ⟨F, ρ, fp, R, S, hf, k⟩ => by
    refine ⟨F, ρ, fp, _, S, hf, fun F1 H1 v1 d1 fp1 s1 hv1 o1 n1 hg1 => ?_⟩
    refine ⟨F1, ρ, fp, _, S.step s1 (fun a ha => by cases ha), hg1, fun F2 H2 v2 d2 fp2 s2 hv2 o2 n2 hg2 => ?_⟩
    have t1 := hv1.there
    have nn : ∀ a ∈ fp1, F2 a = none := fun a ha => by
      obtain ⟨o, e, mu⟩ := t1 a ha
      exact s2.out e mu (o1 a ha).2.2 (o1 a ha).2.1 fun z => by cases z
    refine k F2 H2 (v1 :: v2) (d1 :: d2) (fp1 ++ fp2) (s1.trans s2 fun a ha => by cases ha) ⟨fp1, fp2, rfl, hv1.step s2 fun a ha => (o1 a ha).2.2, hv2⟩ (fun a ha => ?_) ?_ hg2
    · rcases List.mem_append.mp ha with z | z
      · exact ⟨(o1 a z).1, nn a z, (o1 a z).2.2⟩
      · exact ⟨.inr (s1.new (o2 a z).2.2 ((o2 a z).1.elim (fun z => by cases z) id)), (o2 a z).2⟩
    · refine List.nodup_append.mpr ⟨n1, n2, fun a ha b hb e => ?_⟩
      subst e
      obtain ⟨o, e, mu⟩ := t1 a ha
      rcases (o2 a hb).1 with z | z
      · cases z
      · rw [e] at z; cases z
theorem ValL.own {K : PySem.W.Frag} {B : List Addr} {F H : Hp} {n : Nat} : ∀ {ms : List Mode} {vs : List V} {ds : List D} {fp : List Addr}, (∀ m ∈ ms, m = .own n) → ValL K B F H ms vs ds fp → OwnL (Own K F H n) vs ds fp
  | [], [], [], _, _, h => h
  | m :: ms, v :: vs, d :: ds, fp, hm, ⟨f1, f2, e, h, t⟩ => by
    have em := hm m List.mem_cons_self
    subst em
    exact ⟨f1, f2, e, h, ValL.own (fun m h => hm m (List.mem_cons_of_mem _ h)) t⟩
theorem ValL.len {K : PySem.W.Frag} {B : List Addr} {F H : Hp} : ∀ {ms : List Mode} {vs : List V} {ds : List D} {fp : List Addr}, ValL K B F H ms vs ds fp → vs.length = ds.length
  | [], [], [], _, h => rfl
  | m :: ms, v :: vs, d :: ds, fp, ⟨f1, f2, e, h, t⟩ => by rw [List.length_cons, List.length_cons, t.len]
theorem OwnL.toRL0 {K : PySem.W.Frag} {F H : Hp} : ∀ {vs : List V} {ds : List D} {fp : List Addr}, OwnL (Own K F H 0) vs ds fp → RL K F vs ds
  | [], [], _, h => .nil
  | v :: vs, d :: ds, fp, ⟨f1, f2, e, h, t⟩ => .cons h.1 (OwnL.toRL0 t)
def gTup (xs : List D) (R : D → Prop) : Prop := xs.length ≤ sizeLine ∧ R (.tup xs)
def gLst (xs : List D) (R : D → Prop) : Prop := xs.length ≤ sizeLine ∧ R (.lst xs)
/-- (a, b, ..) -/
theorem de_tup {k : Nat} (h : DA X B es ms fs) (hm : ∀ m ∈ ms, m = .own 0 := by simp) : DE X B (.Tuple es k pos) (.own 0) (fArgs gTup fs) := PE.imp (pe_tup h) fun σ H Q ⟨F, ρ, fp, R, S, hf, k⟩ => by
  refine ⟨F, ρ, fp, _, S, hf, fun F1 H1 vs ds fp1 s1 hv o1 n1 hg => ⟨by rw [hv.len]; exact hg.1, fun p hp => ?_⟩⟩
  exact (k.after s1 (A1 := fp1) fun a ha => (o1 a ha).1).newTup s1.wf (hv.own hm).toRL0 hg.2 hp
theorem de_tupN (n : Nat) {k : Nat} (h : DA X B es ms fs) (hm : ∀ m ∈ ms, m = .own n := by simp) : DE X B (.Tuple es k pos) (.own (n + 1)) (fArgs gTup fs) := PE.imp (pe_tup h) fun σ H Q ⟨F, ρ, fp, R, S, hf, k⟩ => by
  refine ⟨F, ρ, fp, _, S, hf, fun F1 H1 vs ds fp1 s1 hv o1 n1 hg => ⟨by rw [hv.len]; exact hg.1, fun p hp => ?_⟩⟩
  exact (k.after s1 (A1 := fp1) fun a ha => (o1 a ha).1).newTupN s1.wf ⟨fun a ha => (o1 a ha).2, n1⟩ (fun _ h => h) (hv.own hm) hg.2 hp
/-- [a, b, ..] -/
theorem de_lst (n : Nat) (h : DA X B es ms fs) (hm : ∀ m ∈ ms, m = .own n := by simp) : DE X B (.List es pos) (.own (n + 1)) (fArgs gLst fs) := PE.imp (pe_lst h) fun σ H Q ⟨F, ρ, fp, R, S, hf, k⟩ => by
  refine ⟨F, ρ, fp, _, S, hf, fun F1 H1 vs ds fp1 s1 hv o1 n1 hg => ⟨by rw [hv.len]; exact hg.1, fun p hp => ?_⟩⟩
  exact (k.after s1 (A1 := fp1) fun a ha => (o1 a ha).1).newLst s1.wf ⟨fun a ha => (o1 a ha).2, n1⟩ (fun _ h => h) (hv.own hm) hg.2 hp
end
end GK

namespace GK
open PySem PySem.Spec PyProof.Rows L2

/-! ### statements over data -/
structure DEnds where
  nx : Env → Prop
  rt : D → Env → Prop
  bk : Env → Prop := fun _ => False
  ct : Env → Prop := fun _ => False
abbrev FS := DEnds → Env → Prop
abbrev FM := Env → (D → Env → Prop) → Prop
/-- the addresses of a value, apart from all else -/
def Apart (B : List Addr) (Z0 F : Hp) (fp f : List Addr) : Prop := (∀ a ∈ f, F a = none ∧ a ∉ B ∧ Z0 a = none ∧ a ∉ fp) ∧ f.Nodup
structure Links (K : PySem.W.Frag) (B : List Addr) (Pn : List V) (Z0 F0 : Hp) (mr : Mode) (E : DEnds) (Dn : Ends) : Prop where
  nx : ∀ F H σ ρ fp, StOk K B Pn Z0 F0 F H σ ρ fp → E.nx ρ → Dn.nx σ H
  rt : ∀ F H σ ρ fp v d f, StOk K B Pn Z0 F0 F H σ ρ fp → Val K mr B F H v d f → Apart B Z0 F fp f → E.rt d ρ → Dn.rt v H
  bk : ∀ F H σ ρ fp, StOk K B Pn Z0 F0 F H σ ρ fp → E.bk ρ → Dn.bk σ H
  ct : ∀ F H σ ρ fp, StOk K B Pn Z0 F0 F H σ ρ fp → E.ct ρ → Dn.ct σ H
def tDS (K : PySem.W.Frag) (B : List Addr) (pin : Nat) (mr : Mode) (g : FS) : TS := fun Dn σ H =>
  ∃ Pn Z0 F0 F ρ fp E, Pn.length = pin ∧ StOk K B Pn Z0 F0 F H σ ρ fp ∧ g E ρ ∧ Links K B Pn Z0 F0 mr E Dn
/-- an expression that may change what the names own -/
def tDM (K : PySem.W.Frag) (B : List Addr) (pin : Nat) (m : Mode) (f : FM) : TE := fun σ H Q =>
  ∃ Pn Z0 F0 F ρ fp R, Pn.length = pin ∧ StOk K B Pn Z0 F0 F H σ ρ fp ∧ f ρ R ∧
    ∀ F' H' ρ' fp' v d f', StOk K B Pn Z0 F0 F' H' σ ρ' fp' → Val K m B F' H' v d f' → Apart B Z0 F' fp' f' → R d ρ' → Q v H'
abbrev DS (X : Cx) (B : List Addr) (st : Stmt) (pin : Nat) (mr : Mode) (g : FS) : Prop := PS X st (tDS X.K B pin mr g)
abbrev DSs (X : Cx) (B : List Addr) (st : List Stmt) (pin : Nat) (mr : Mode) (g : FS) : Prop := PSs X st (tDS X.K B pin mr g)
abbrev DM (X : Cx) (B : List Addr) (e : Expr) (pin : Nat) (m : Mode) (f : FM) : Prop := PE X e (tDM X.K B pin m f)
abbrev mOf (f : FE) : FM := fun ρ R => f ρ fun d => R d ρ

section
variable {K : PySem.W.Frag} {B A fp : List Addr} {Pn : List V} {Z0 F0 F F' H H' : Hp} {σ : L2.St} {ρ : Env} {m : Mode} {n : Nat}
theorem tDM_of {pin : Nat} {f : FE} {Q : VK} (h : tDM K B pin m (mOf f) σ H Q) : tD K B m f σ H Q := by
  obtain ⟨Pn, Z0, F0, F, ρ, fp, R, _, S, hf, k⟩ := h
  refine ⟨F, ρ, fp, _, S.base, hf, fun F' H' v d f' s hv ho hn hR => k F' H' ρ fp v d f' (S.step s fun a h => (by cases h)) hv ⟨fun a ha => ?_, hn⟩ hR⟩
  obtain ⟨h1, h2, h3⟩ := ho a ha
  have hz : H a = none := h1.elim (fun h => by cases h) id
  refine ⟨h2, h3, ?_, fun hm => ?_⟩
  · cases q : Z0 a with
    | none => rfl
    | some o => rw [S.z a o q] at hz; cases hz
  · obtain ⟨o, e, _⟩ := S.own.there a hm
    rw [hz] at e; cases e
theorem dm_of {X : Cx} {e : Expr} {pin : Nat} {f : FE} (h : DE X B e m f) : DM X B e pin m (mOf f) := PE.imp h fun _ _ _ q => tDM_of q
theorem nd_comm {α : Type} {a b : List α} (h : (a ++ b).Nodup) : (b ++ a).Nodup := by
  obtain ⟨h1, h2, h3⟩ := List.nodup_append.mp h
  exact List.nodup_append.mpr ⟨h2, h1, fun x hx y hy e => h3 y hy x hx e.symm⟩
theorem OwnE.set {v : V} {d : D} {f : List Addr} (h : Own K F H n v d f) : ∀ {σ : L2.St} {ρ : Env} {fp : List Addr} {i : Nat}, OwnE K F H σ ρ fp → (fp ++ f).Nodup → i < ρ.length →
    ∃ fp', OwnE K F H (σ.set i (some v)) (ρ.set i (some (n, d))) fp' ∧ fp'.Nodup ∧ ∀ a ∈ fp', a ∈ fp ∨ a ∈ f
  | [], [], fp, i, _, _, hi => by simp at hi
  | x :: σ, none :: ρ, fp, 0, ho, nd, _ => ⟨f ++ fp, ⟨f, fp, rfl, h, ho⟩, nd_comm nd, fun a ha => (List.mem_append.mp ha).symm⟩
  | x :: σ, none :: ρ, fp, i + 1, ho, nd, hi => OwnE.set (σ := σ) (ρ := ρ) h ho nd (by simpa using hi)
  | some w :: σ, some (k, e) :: ρ, fp, 0, ⟨f1, f2, ef, h1, t⟩, nd, _ => by
    subst ef
    refine ⟨f ++ f2, ⟨f, f2, rfl, h, t⟩, ?_, fun a ha => ?_⟩
    · rw [List.append_assoc] at nd
      exact nd_comm (List.nodup_append.mp nd).2.1
    · rcases List.mem_append.mp ha with z | z
      · exact .inr z
      · exact .inl (List.mem_append_right _ z)
  | some w :: σ, some (k, e) :: ρ, fp, i + 1, ⟨f1, f2, ef, h1, t⟩, nd, hi => by
    subst ef
    rw [List.append_assoc] at nd
    obtain ⟨n1, n2, n3⟩ := List.nodup_append.mp nd
    obtain ⟨fp', o', nd', sub⟩ := OwnE.set (σ := σ) (ρ := ρ) (i := i) h t n2 (by simpa using hi)
    refine ⟨f1 ++ fp', ⟨f1, fp', rfl, h1, o'⟩, List.nodup_append.mpr ⟨n1, nd', fun a ha b hb e => ?_⟩, fun a ha => ?_⟩
    · subst e
      rcases sub a hb with z | z
      · exact n3 a ha a (List.mem_append_left _ z) rfl
      · exact n3 a ha a (List.mem_append_right _ z) rfl
    · rcases List.mem_append.mp ha with z | z
      · exact .inl (List.mem_append_left _ z)
      · rcases sub a z with z | z
        · exact .inl (List.mem_append_right _ z)
        · exact .inr z
  | _ :: _, [], _, _, h, _, _ => by cases h
  | [], _ :: _, _, _, h, _, _ => by cases h
  | none :: _, some _ :: _, _, _, h, _, _ => by cases h
/-- a name is stored -/
theorem StOk.set {v : V} {d : D} {f : List Addr} {i : Nat} (S : StOk K B Pn Z0 F0 F H σ ρ fp) (h : Own K F H n v d f) (ap : Apart B Z0 F fp f) (hi : i < ρ.length) (hp : Pn.length ≤ i) :
    ∃ fp', StOk K B Pn Z0 F0 F H (σ.set i (some v)) (ρ.set i (some (n, d))) fp' := by
  have nd : (fp ++ f).Nodup := List.nodup_append.mpr ⟨S.nd, ap.2, fun a ha b hb e => by
    subst e
    exact (ap.1 a hb).2.2.2 ha⟩
  obtain ⟨fp', o', nd', sub⟩ := OwnE.set h S.own nd hi
  refine ⟨fp', S.wf, o', nd', fun a ha => ?_, S.z, S.zB, S.f, S.fr, fun j w e => ?_⟩
  · rcases sub a ha with z | z
    · exact S.out a z
    · obtain ⟨h1, h2, h3, _⟩ := ap.1 a z
      exact ⟨h1, h2, h3⟩
  · have hj : j < Pn.length := (List.getElem?_eq_some_iff.mp e).1
    rw [List.getElem?_set_ne (by omega)]
    exact S.pn j w e
/-- a name's value is taken away -/
theorem OwnE.take {d : D} : ∀ {σ : L2.St} {ρ : Env} {fp : List Addr} {i : Nat}, OwnE K F H σ ρ fp → fp.Nodup → GK.slot ρ i = some (n, d) →
    ∃ v f fp', σ[i]? = some (some v) ∧ Own K F H n v d f ∧ OwnE K F H σ (ρ.set i none) fp' ∧ (fp' ++ f).Nodup ∧ ∀ a ∈ fp' ++ f, a ∈ fp
  | [], [], fp, i, _, _, e => by cases e
  | x :: σ, none :: ρ, fp, 0, ho, nd, e => by cases e
  | x :: σ, none :: ρ, fp, i + 1, ho, nd, e => OwnE.take (σ := σ) (ρ := ρ) (i := i) ho nd e
  | some w :: σ, some (k, e) :: ρ, fp, 0, ⟨f1, f2, ef, h1, t⟩, nd, q => by
    subst ef
    cases q
    exact ⟨w, f1, f2, rfl, h1, t, nd_comm nd, fun a ha => List.mem_append.mpr (List.mem_append.mp ha).symm⟩
  | some w :: σ, some (k, e) :: ρ, fp, i + 1, ⟨f1, f2, ef, h1, t⟩, nd, q => by
    subst ef
    obtain ⟨n1, n2, n3⟩ := List.nodup_append.mp nd
    obtain ⟨v, f, fp', e1, e2, e3, e4, e5⟩ := OwnE.take (σ := σ) (ρ := ρ) (i := i) t n2 q
    refine ⟨v, f, f1 ++ fp', e1, e2, ⟨f1, fp', rfl, h1, e3⟩, ?_, fun a ha => ?_⟩
    · rw [List.append_assoc]
      exact List.nodup_append.mpr ⟨n1, e4, fun a ha b hb e => n3 a ha b (e5 b hb) e⟩
    · rw [List.append_assoc] at ha
      rcases List.mem_append.mp ha with z | z
      · exact List.mem_append_left _ z
      · exact List.mem_append_right _ (e5 a z)
  | _ :: _, [], _, _, h, _, _ => by cases h
  | [], _ :: _, _, _, h, _, _ => by cases h
  | none :: _, some _ :: _, _, _, h, _, _ => by cases h
theorem StOk.take {d : D} {i : Nat} (S : StOk K B Pn Z0 F0 F H σ ρ fp) (e : slot ρ i = some (n, d)) :
    ∃ v f fp', σ[i]? = some (some v) ∧ Own K F H n v d f ∧ StOk K B Pn Z0 F0 F H σ (ρ.set i none) fp' ∧ Apart B Z0 F fp' f ∧ ∀ a ∈ fp' ++ f, a ∈ fp := by
  obtain ⟨v, f, fp', e1, e2, e3, e4, e5⟩ := S.own.take S.nd e
  obtain ⟨n1, n2, n3⟩ := List.nodup_append.mp e4
  refine ⟨v, f, fp', e1, e2, ⟨S.wf, e3, n1, fun a ha => S.out a (e5 a (List.mem_append_left _ ha)), S.z, S.zB, S.f, S.fr, S.pn⟩, ⟨fun a ha => ?_, n2⟩, e5⟩
  obtain ⟨h1, h2, h3⟩ := S.out a (e5 a (List.mem_append_right _ ha))
  exact ⟨h1, h2, h3, fun z => n3 a z a ha rfl⟩
/-- what is owned is frozen: its addresses go to what may be read -/
theorem StOk.frzV {v : V} {d : D} {f : List Addr} (S : StOk K B Pn Z0 F0 F H σ ρ fp) (h : Own K F H n v d f) (ap : Apart B Z0 F fp f) : ∃ F', StOk K B Pn Z0 F0 F' H σ ρ fp ∧ R K F' v d ∧ Step B f F H F' H := by
  have sF : Same F (fun a => if a ∈ f then H a else F a) := fun a u e => by
    show (if a ∈ f then H a else F a) = some u
    by_cases ha : a ∈ f
    · rw [(ap.1 a ha).1] at e; cases e
    · rw [if_neg ha]; exact e
  have s : Step B f F H (fun a => if a ∈ f then H a else F a) H := ⟨fun _ _ _ h => h, sF, fun a u e => by
      by_cases ha : a ∈ f
      · exact .inr (.inr (.inr ha))
      · rw [if_neg ha] at e; exact .inl e, ⟨fun a u e => by
      by_cases ha : a ∈ f
      · rw [if_pos ha] at e
        obtain ⟨o, eo, mu⟩ := h.there a ha
        rw [eo] at e; cases e
        exact rdH_of (ap.1 a ha).2.1 eo (mut_er mu)
      · rw [if_neg ha] at e; exact S.wf.sub a u e, S.wf.lock, S.wf.bag⟩⟩
  refine ⟨_, S.step s (fun a ha => ⟨(ap.1 a ha).2.2.2, (ap.1 a ha).2.2.1⟩), h.toR sF fun a ha o e _ => ?_, s⟩
  show (if a ∈ f then H a else F a) = some o
  rw [if_pos ha]; exact e
/-- .. as a name's value -/
def frzE : Env → Nat → Env
  | [], _ => []
  | some (_, d) :: r, 0 => some (0, d) :: r
  | none :: r, 0 => none :: r
  | o :: r, i + 1 => o :: frzE r i
theorem frzE_set : ∀ {ρ : Env} {i : Nat} {d : D}, slot ρ i = some (n, d) → frzE ρ i = (ρ.set i none).set i (some (0, d))
  | [], i, d, e => by cases e
  | o :: r, 0, d, e => by cases e; rfl
  | o :: r, i + 1, d, e => by
    have ih := frzE_set (ρ := r) (i := i) (d := d) e
    cases o <;> exact congrArg (List.cons _) ih
theorem frzE_none : ∀ {ρ : Env} {i : Nat}, slot ρ i = none → frzE ρ i = ρ
  | [], i, e => rfl
  | none :: r, 0, e => rfl
  | some p :: r, 0, e => by cases e
  | none :: r, i + 1, e => congrArg (List.cons _) (frzE_none (ρ := r) (i := i) e)
  | some p :: r, i + 1, e => congrArg (List.cons _) (frzE_none (ρ := r) (i := i) e)
theorem slot_lt : ∀ {ρ : Env} {i : Nat} {p : Nat × D}, slot ρ i = some p → i < ρ.length
  | [], i, p, e => by cases e
  | o :: r, 0, p, e => Nat.succ_pos _
  | o :: r, i + 1, p, e => Nat.succ_lt_succ (slot_lt (ρ := r) e)
theorem set_self {α : Type} {x : α} : ∀ {l : List α} {i : Nat}, l[i]? = some x → l.set i x = l
  | [], i, e => rfl
  | y :: l, 0, e => by cases e; rfl
  | y :: l, i + 1, e => congrArg (List.cons y) (set_self (l := l) (i := i) e)
theorem OwnE.set0 {v : V} {d : D} (h : R K F v d) : ∀ {σ : L2.St} {ρ : Env} {fp : List Addr} {i : Nat}, OwnE K F H σ ρ fp → σ[i]? = some (some v) → GK.slot ρ i = none → OwnE K F H σ (ρ.set i (some (0, d))) fp
  | [], [], fp, i, h, e, _ => by simp at e
  | x :: σ, none :: ρ, fp, 0, ho, e, _ => by
    have e' : x = some v := Option.some.inj e
    subst e'
    exact ⟨[], fp, rfl, ⟨h, rfl⟩, ho⟩
  | x :: σ, none :: ρ, fp, i + 1, ho, e, q => OwnE.set0 (σ := σ) (ρ := ρ) (i := i) h ho e q
  | some w :: σ, some (k, e) :: ρ, fp, 0, _, _, q => by cases q
  | some w :: σ, some (k, e) :: ρ, fp, i + 1, ⟨f1, f2, ef, h1, t⟩, q, z => ⟨f1, f2, ef, h1, OwnE.set0 (σ := σ) (ρ := ρ) (i := i) h t q z⟩
  | _ :: _, [], _, _, h, _, _ => by cases h
  | [], _ :: _, _, _, h, _, _ => by cases h
  | none :: _, some _ :: _, _, _, h, _, _ => by cases h
theorem slot_unset : ∀ {ρ : Env} {i : Nat}, slot (ρ.set i none) i = none
  | [], i => rfl
  | o :: r, 0 => rfl
  | o :: r, i + 1 => slot_unset (ρ := r)
theorem StOk.frz (S : StOk K B Pn Z0 F0 F H σ ρ fp) (i : Nat) : ∃ F' fp', StOk K B Pn Z0 F0 F' H σ (frzE ρ i) fp' := by
  cases e : slot ρ i with
  | none => rw [frzE_none e]; exact ⟨F, fp, S⟩
  | some p =>
    obtain ⟨n, d⟩ := p
    obtain ⟨v, f, fp', e1, e2, e3, e4, _⟩ := S.take e
    obtain ⟨F', S', r, _⟩ := e3.frzV e2 e4
    rw [frzE_set e]
    exact ⟨F', fp', S'.wf, S'.own.set0 r e1 slot_unset, S'.nd, S'.out, S'.z, S'.zB, S'.f, S'.fr, S'.pn⟩
end

/-! ### statements -/
section
variable {X : Cx} {st : Stmt} {sts : List Stmt} {e : Expr} {pin : Nat} {mr m : Mode} {g g' : FS} {f : FM} {pos : Pos}
theorem Links.seq {K : PySem.W.Frag} {B : List Addr} {Pn : List V} {Z0 F0 : Hp} {E : DEnds} {Dn : Ends} (hp : Pn.length = pin) (L : Links K B Pn Z0 F0 mr E Dn) : Links K B Pn Z0 F0 mr { E with nx := g E } { Dn with nx := tDS K B pin mr g Dn } :=
  ⟨fun F H σ ρ fp S hg => ⟨Pn, Z0, F0, F, ρ, fp, E, hp, S, hg, L⟩, L.rt, L.bk, L.ct⟩
abbrev gSeq (g g' : FS) : FS := fun E ρ => g { E with nx := g' E } ρ
theorem ds_cons (h1 : DS X B st pin mr g) (h2 : DSs X B sts pin mr g') : DSs X B (st :: sts) pin mr (gSeq g g') :=
  PSs.imp (pss_cons h1 h2) fun Dn σ H ⟨Pn, Z0, F0, F, ρ, fp, E, hp, S, hg, L⟩ => ⟨Pn, Z0, F0, F, ρ, fp, _, hp, S, hg, L.seq hp⟩
theorem ds_one (h1 : DS X B st pin mr g) : DSs X B [st] pin mr g := pss_one h1
theorem ds_nil : DSs X B [] pin mr (fun E ρ => E.nx ρ) := PSs.imp pss_nil fun Dn σ H ⟨Pn, Z0, F0, F, ρ, fp, E, hp, S, hg, L⟩ => L.nx F H σ ρ fp S hg
theorem ds_pass : DS X B (.Pass pos) pin mr (fun E ρ => E.nx ρ) := PS.imp ps_pass fun Dn σ H ⟨Pn, Z0, F0, F, ρ, fp, E, hp, S, hg, L⟩ => L.nx F H σ ρ fp S hg
theorem ds_break : DS X B (.Break pos) pin mr (fun E ρ => E.bk ρ) := PS.imp ps_break fun Dn σ H ⟨Pn, Z0, F0, F, ρ, fp, E, hp, S, hg, L⟩ => L.bk F H σ ρ fp S hg
theorem ds_continue : DS X B (.Continue pos) pin mr (fun E ρ => E.ct ρ) := PS.imp ps_continue fun Dn σ H ⟨Pn, Z0, F0, F, ρ, fp, E, hp, S, hg, L⟩ => L.ct F H σ ρ fp S hg
/-- a name is frozen ahead of a statement -/
theorem ds_frz (i : Nat) (h : DS X B st pin mr g) : DS X B st pin mr (fun E ρ => g E (frzE ρ i)) :=
  PS.imp h fun Dn σ H ⟨Pn, Z0, F0, F, ρ, fp, E, hp, S, hg, L⟩ => by
    obtain ⟨F', fp', S'⟩ := S.frz i
    exact ⟨Pn, Z0, F0, F', _, fp', E, hp, S', hg, L⟩
/-- x = e -/
abbrev gSet (i n : Nat) (f : FM) : FS := fun E ρ => i < ρ.length ∧ f ρ fun d ρ' => E.nx (ρ'.set i (some (n, d)))
theorem ds_setM (i n : Nat) {x : Str} {pos' : Pos} (hN : X.N.Nodup) (hi : X.N[i]? = some x) (hx : Loc X.env.scope x) (hp : pin ≤ i) (he : DM X B e pin (.own n) f) (hs : swapsWith e (some (.Name x pos')) pos.line X.env = pure false := by rfl)
    (hf : X.fn x = true ∨ X.env.scope.names.lookup x = some .local := by first | exact .inl rfl | exact .inr rfl | assumption) : DS X B (.Assign [.Name x pos'] e pos) pin mr (fun E ρ => f ρ fun d ρ' => i < ρ'.length ∧ E.nx (ρ'.set i (some (n, d)))) :=
  PS.imp (ps_set hN hi hx he hs hf) fun Dn σ H ⟨Pn, Z0, F0, F, ρ, fp, E, hpl, S, hg, L⟩ => ⟨Pn, Z0, F0, F, ρ, fp, _, hpl, S, hg, fun F' H' ρ' fp' v d f' S' hv ap hR => by
    obtain ⟨fp2, S2⟩ := S'.set hv ap hR.1 (by omega)
    exact L.nx F' H' _ _ fp2 S2 hR.2⟩
/-- e; its value dropped -/
theorem ds_exprM (he : DM X B e pin m f) (hs : swapsWith e none pos.line X.env = pure false := by rfl) : DS X B (.Expr e pos) pin mr (fun E ρ => f ρ fun _ ρ' => E.nx ρ') :=
  PS.imp (ps_expr he hs) fun Dn σ H ⟨Pn, Z0, F0, F, ρ, fp, E, hpl, S, hg, L⟩ => ⟨Pn, Z0, F0, F, ρ, fp, _, hpl, S, hg, fun F' H' ρ' fp' v d f' S' hv ap hR => L.nx F' H' σ ρ' fp' S' hR⟩
/-- return e -/
theorem ds_retM (he : DM X B e pin mr f) : DS X B (.Return (some e) pos) pin mr (fun E ρ => f ρ E.rt) :=
  PS.imp (ps_ret he) fun Dn σ H ⟨Pn, Z0, F0, F, ρ, fp, E, hpl, S, hg, L⟩ => ⟨Pn, Z0, F0, F, ρ, fp, _, hpl, S, hg, fun F' H' ρ' fp' v d f' S' hv ap hR => L.rt F' H' σ ρ' fp' v d f' S' hv ap hR⟩
theorem ds_retN : DS X B (.Return none pos) pin mr (fun E ρ => E.rt .non ρ) :=
  PS.imp ps_retN fun Dn σ H ⟨Pn, Z0, F0, F, ρ, fp, E, hpl, S, hg, L⟩ => L.rt F H σ ρ fp .non .non [] S (Val.atom rfl fun _ => .non) ⟨fun a h => (by cases h), List.nodup_nil⟩ hg
/-- the value of a name, taken away from it -/
def mTake (i n : Nat) : FM := fun ρ R => match slot ρ i with
  | some (k, d) => k = n ∧ R d (ρ.set i none)
  | none => False
theorem dm_take (i n : Nat) {x : Str} (hN : X.N[i]? = some x := by rfl) (hv : Vis X.env.scope x := by first | exact Or.inl rfl | exact Or.inr (Or.inl rfl) | exact Or.inr (Or.inr rfl)) (hd : (x == ("__debug__" : Str)) = false := by decide)
    (hcd : (x == ("__classdict__" : Str)) = false := by decide) : DM X B (.Name x pos) pin (.own n) (mTake i n) := PE.imp (pe_var hN hv hd hcd) fun σ H Q ⟨Pn, Z0, F0, F, ρ, fp, R, hpl, S, hf, k⟩ => by
  unfold mTake at hf
  cases q : slot ρ i with
  | none => rw [q] at hf; exact hf.elim
  | some p =>
    obtain ⟨n', d⟩ := p
    rw [q] at hf
    obtain ⟨rfl, hR⟩ := hf
    obtain ⟨v, f, fp', e1, e2, e3, e4, _⟩ := S.take q
    exact ⟨v, e1, k F H _ fp' v d f e3 e2 e4 hR⟩
/-- if -/
theorem ds_if {c : Expr} {a b : List Stmt} {fc : FT} (hc : DT X B c fc) (ha : DSs X B a pin mr g) (hb : DSs X B b pin mr g') : DS X B (.If c a b pos) pin mr (fun E ρ => fc ρ fun t => if t = true then g E ρ else g' E ρ) :=
  PS.imp (ps_if hc ha hb) fun Dn σ H ⟨Pn, Z0, F0, F, ρ, fp, E, hpl, S, hg, L⟩ => ⟨F, ρ, fp, _, S.base, hg, fun F' H' t s ht => by
    have S' := S.step s fun a h => (by cases h)
    cases t with
    | true => exact ⟨Pn, Z0, F0, F', ρ, fp, E, hpl, S', ht, L⟩
    | false => exact ⟨Pn, Z0, F0, F', ρ, fp, E, hpl, S', by simpa using ht, L⟩⟩
end
end GK

namespace GK
open PySem PySem.Spec PyProof.Rows L2

/-! ### while -/
section
variable {X : Cx} {pin : Nat} {mr : Mode} {g gb : FS} {fc : FT} {pos : Pos}
def gWhile (fc : FT) (gb : FS) : FS := fun E ρ => ∃ W : Nat → Env → Prop, (∃ m, W m ρ) ∧ ∀ m ρ, W m ρ → fc ρ fun t => if t = true then gb { E with nx := fun ρ' => ∃ m', m' < m ∧ W m' ρ', ct := fun ρ' => ∃ m', m' < m ∧ W m' ρ', bk := E.nx } ρ else E.nx ρ
theorem ds_while {c : Expr} {body : List Stmt} (hp : PassesOwn (model X.prog X.w) X.A X.env X.xe) (hc : DT X B c fc) (hb : DSs X B body pin mr gb) : DS X B (.While c body [] pos) pin mr (gWhile fc gb) :=
  PS.imp (ps_while hp hc hb) fun Dn σ H ⟨Pn, Z0, F0, F, ρ, fp, E, hpl, S, ⟨W, ⟨m0, w0⟩, turn⟩, L⟩ => by
    refine ⟨fun m σ H => ∃ F ρ fp, StOk X.K B Pn Z0 F0 F H σ ρ fp ∧ W m ρ, ⟨m0, F, ρ, fp, S, w0⟩, ?_⟩
    rintro m σ H ⟨F, ρ, fp, S, w⟩
    refine ⟨F, ρ, fp, _, S.base, turn m ρ w, fun F' H' t s ht => ?_⟩
    have S' := S.step s fun a h => (by cases h)
    cases t with
    | true =>
      dsimp only at ht ⊢
      rw [if_pos rfl] at ht ⊢
      refine ⟨fun σ' H' => ∃ F ρ fp, StOk X.K B Pn Z0 F0 F H' σ' ρ fp ∧ ∃ m', m' < m ∧ W m' ρ, fun σ' H' ⟨F, ρ, fp, S, m', hm, w'⟩ => ⟨m', hm, F, ρ, fp, S, w'⟩, ?_⟩
      exact ⟨Pn, Z0, F0, F', ρ, fp, _, hpl, S', ht, ⟨fun F H σ ρ fp S h => ⟨F, ρ, fp, S, h⟩, L.rt, L.nx, fun F H σ ρ fp S h => ⟨F, ρ, fp, S, h⟩⟩⟩
    | false =>
      dsimp only at ht ⊢
      rw [if_neg Bool.false_ne_true] at ht ⊢
      exact L.nx F' H' σ ρ fp S' ht
end

/-! ### what is walked -/
/-- what stands and is nobody's -/
def prot (B fp : List Addr) (H : Hp) : Hp := fun a => if a ∈ fp ∨ a ∈ B then none else H a
/-- the iterator gives these things, one by one, wherever what stood stands -/
def ItD (K : PySem.W.Frag) (B : List Addr) (Z F1 : Hp) (J : It) (xs : List D) : Prop := ∀ (i : Nat) (F H : Hp), WF B F H → Same Z H → Same F1 F →
  (i < xs.length → J.go i H ∧ ∀ x H', J.yld i H x H' → ∃ F' d, xs[i]? = some d ∧ Step B [] F H F' H' ∧ R K F' x d) ∧ (xs.length ≤ i → J.stop i H)
abbrev FI := Env → (List D → Prop) → Prop
def tDI (K : PySem.W.Frag) (B : List Addr) (fi : FI) : TI := fun σ H R => ∃ F ρ fp Rx, StOk K B [] noH noH F H σ ρ fp ∧ fi ρ Rx ∧
  ∀ J F1 H1 xs, Step B [] F H F1 H1 → ItD K B (prot B fp H1) F1 J xs → Rx xs → R J H1
abbrev DI (X : Cx) (B : List Addr) (tg iter : Expr) (fi : FI) : Prop := PI X tg iter (tDI X.K B fi)
theorem PI.imp {X : Cx} {tg iter : Expr} {t t' : TI} (h : PI X tg iter t) (k : ∀ σ H R, t' σ H R → t σ H R) : PI X tg iter t' := ⟨fun pins s σ H R I q => h.run pins s σ H R I (k σ H R q)⟩
/-- a target: what the names are behind it -/
structure DG (X : Cx) (pin : Nat) (tg : Expr) (t : D → Env → Option Env) : Prop where
  ok : ∃ g : TG, PG X tg g ∧ ∀ (B : List Addr) (Pn : List V) (Z0 F0 F H : Hp) (σ : L2.St) (ρ ρ' : Env) (fp : List Addr) (v : V) (d : D), Pn.length = pin → StOk X.K B Pn Z0 F0 F H σ ρ fp → R X.K F v d → t d ρ = some ρ' →
    ∀ Q : L2.St → Hp → Prop, (∀ σ' fp', StOk X.K B Pn Z0 F0 F H σ' ρ' fp' → Q σ' H) → g v σ H Q
section
variable {K : PySem.W.Frag} {B fp : List Addr} {F F1 H H1 : Hp}
theorem prot_same : Same (prot B fp H) H := fun a o e => by
  unfold prot at e
  split at e
  · cases e
  · exact e
theorem prot_in {a : Addr} (h : a ∈ fp ∨ a ∈ B) : prot B fp H a = none := by unfold prot; rw [if_pos h]
theorem prot_out {a : Addr} (h : a ∉ fp) (h' : a ∉ B) : prot B fp H a = H a := by unfold prot; rw [if_neg (by simp [h, h'])]
/-- what may be read is nobody's -/
theorem StOk.protF {Pn : List V} {Z0 F0 : Hp} {σ : L2.St} {ρ : Env} (S : StOk K B Pn Z0 F0 F H σ ρ fp) {a : Addr} {u : HO} (h : F a = some u) : ∃ x, prot B fp H a = some x ∧ erO x = u := by
  obtain ⟨hb, x, e, n⟩ := rdH_some (S.wf.sub a u h)
  refine ⟨x, ?_, n⟩
  rw [prot_out (fun hf => ?_) hb]
  · exact e
  · rw [(S.out a hf).1] at h; cases h
/-- the state, with all that is nobody's kept from here on -/
theorem StOk.rebase {Pn : List V} {Z0 F0 : Hp} {σ : L2.St} {ρ : Env} (S : StOk K B Pn Z0 F0 F H σ ρ fp) : StOk K B Pn (prot B fp H) F F H σ ρ fp :=
  ⟨S.wf, S.own, S.nd, fun a ha => ⟨(S.out a ha).1, (S.out a ha).2.1, prot_in (.inl ha)⟩, prot_same, fun a h => prot_in (.inr h), fun _ _ h => h, fun a u h => .inl h, S.pn⟩
theorem StOk.zp {Pn : List V} {Z0 F0 : Hp} {σ : L2.St} {ρ : Env} (S : StOk K B Pn Z0 F0 F H σ ρ fp) : Same Z0 (prot B fp H) := fun a o e => by
  have h1 : a ∉ fp := fun h => by rw [(S.out a h).2.2] at e; cases e
  have h2 : a ∉ B := fun h => by rw [S.zB a h] at e; cases e
  rw [prot_out h1 h2]; exact S.z a o e
theorem Apart.unbase {Z Z' : Hp} {f : List Addr} (s : Same Z Z') (ap : Apart B Z' F fp f) : Apart B Z F fp f :=
  ⟨fun a ha => ⟨(ap.1 a ha).1, (ap.1 a ha).2.1, s.free (ap.1 a ha).2.2.1, (ap.1 a ha).2.2.2⟩, ap.2⟩
/-- .. and back -/
theorem StOk.unbase {Pn : List V} {Z0 F0 F' H' : Hp} {σ σ' : L2.St} {ρ ρ' : Env} {fp' : List Addr} (S : StOk K B Pn Z0 F0 F H σ ρ fp) (T : StOk K B Pn (prot B fp H) F F' H' σ' ρ' fp') : StOk K B Pn Z0 F0 F' H' σ' ρ' fp' := by
  have zp := S.zp
  refine ⟨T.wf, T.own, T.nd, fun a ha => ⟨(T.out a ha).1, (T.out a ha).2.1, ?_⟩, fun a o e => T.z a o (zp a o e), S.zB, fun a u e => T.f a u (S.f a u e), fun a u e => ?_, T.pn⟩
  · cases q : Z0 a with
    | none => rfl
    | some o =>
      have := (T.out a ha).2.2
      rw [zp a o q] at this; cases this
  · rcases T.fr a u e with z | z | z
    · exact S.fr a u z
    · right; left
      cases q : Z0 a with
      | none => rfl
      | some o => rw [zp a o q] at z; cases z
    · exact .inr (.inr z)
end

/-- the turns of a for -/
def forD (t : D → Env → Option Env) (gb : FS) : List D → FS
  | [] => fun E ρ => E.nx ρ
  | x :: xs => fun E ρ => ∃ ρ', t x ρ = some ρ' ∧ gb { E with nx := fun ρ' => forD t gb xs E ρ', ct := fun ρ' => forD t gb xs E ρ', bk := E.nx } ρ'
def gFor (fi : FI) (t : D → Env → Option Env) (gb : FS) : FS := fun E ρ => fi ρ fun xs => forD t gb xs E ρ
section
variable {X : Cx} {pin : Nat} {mr : Mode} {g gb : FS} {fi : FI} {t : D → Env → Option Env} {pos : Pos}
theorem ds_for {tg iter : Expr} {body : List Stmt} (hp : PassesOwn (model X.prog X.w) X.A X.env X.xe) (hc : X.calm = true) (hi : DI X B tg iter fi) (hg : DG X pin tg t) (hb : DSs X B body pin mr gb)
    (hs : ∀ x, foldedSetIterable iter X.env x = pure x := by intro _; rfl) : DS X B (.For tg iter body [] pos) pin mr (gFor fi t gb) := by
  obtain ⟨g, pg, kg⟩ := hg.ok
  refine PS.imp (ps_for hp hc hi pg hb hs) fun Dn σ H ⟨Pn, Z0, F0, F, ρ, fp, E, hpl, S, hf, L⟩ => ⟨F, ρ, fp, _, S.base, hf, fun J F1 H1 xs s1 it hx => ?_⟩
  have S1 := S.step s1 fun a h => (by cases h)
  refine ⟨fun i m σ H => ∃ F ρ fp', StOk X.K B Pn (prot B fp H1) F1 F H σ ρ fp' ∧ m = xs.length - i ∧ i ≤ xs.length ∧ forD t gb (xs.drop i) E ρ, ⟨xs.length, F1, ρ, fp, S1.rebase, rfl, Nat.zero_le _, hx⟩, ?_⟩
  rintro i m σ H ⟨F, ρ, fp', S, rfl, hi, hr⟩
  obtain ⟨k1, k2⟩ := it i F H S.wf S.z S.f
  by_cases hlt : i < xs.length
  · refine .inr ⟨(k1 hlt).1, fun σ' H' => ∃ F ρ fp', StOk X.K B Pn (prot B fp H1) F1 F H' σ' ρ fp' ∧ forD t gb (xs.drop (i + 1)) E ρ, fun σ' H' ⟨F, ρ, fp', S, h⟩ => ⟨xs.length - (i + 1), by omega, F, ρ, fp', S, rfl, hlt, h⟩, fun x H' y => ?_⟩
    obtain ⟨F2, d, ed, s2, r2⟩ := (k1 hlt).2 x H' y
    have S2 := S.step s2 fun a h => (by cases h)
    rw [List.drop_eq_getElem_cons hlt] at hr
    have ed' : xs[i] = d := Option.some.inj ((List.getElem?_eq_getElem hlt).symm.trans ed)
    rw [ed'] at hr
    obtain ⟨ρ', et, hb'⟩ := hr
    refine kg B Pn _ F1 F2 H' σ ρ ρ' fp' x d hpl S2 r2 et _ fun σ2 fp2 S3 => ?_
    exact ⟨Pn, _, F1, F2, ρ', fp2, _, hpl, S3, hb', ⟨fun F H σ ρ fp S h => ⟨F, ρ, fp, S, h⟩, fun F H σ ρ fp' v d f S hv ap h => L.rt F H σ ρ fp' v d f (S1.unbase S) hv (ap.unbase S1.zp) h,
      fun F H σ ρ fp S h => L.nx F H σ ρ fp (S1.unbase S) h, fun F H σ ρ fp S h => ⟨F, ρ, fp, S, h⟩⟩⟩
  · have e : i = xs.length := by omega
    subst e
    rw [List.drop_length] at hr
    exact .inl ⟨k2 (Nat.le_refl _), L.nx F H σ ρ fp' (S1.unbase S) hr⟩
end
end GK

namespace GK
open PySem PySem.Spec PyProof.Rows L2

/-! ### a def's promise over data: wp of the arguments and of what is wanted -/
abbrev FSpec := List D → (D → Prop) → Prop
/-- .. that may name the bag -/
abbrev BSpec := List Addr → FSpec
def spD (K : PySem.W.Frag) (m : Mode) (W : BSpec) : Sp := fun vs H Q _ => ∃ B F ds R, WF B F H ∧ RL K F vs ds ∧ W B ds R ∧ Post K B [] F H m R Q
/-- as a state -/
def envOf : List D → Env := List.map fun d => some (0, d)
def startE (N : List Str) (ds : List D) : Env := envOf ds ++ List.replicate (N.length - ds.length) none
section
variable {K : PySem.W.Frag} {F H : Hp}
theorem ownE_none : ∀ n : Nat, OwnE K F H (List.replicate n none) (List.replicate n none) []
  | 0 => rfl
  | n + 1 => ownE_none n
theorem ownE_start {vs : List V} {ds : List D} (n : Nat) : RL K F vs ds → OwnE K F H (vs.map some ++ List.replicate n none) (envOf ds ++ List.replicate n none) []
  | .nil => ownE_none n
  | .cons h t => ⟨[], [], rfl, ⟨h, rfl⟩, ownE_start n t⟩
theorem start_eq {N : List Str} {vs : List V} : start N vs = vs.map some ++ List.replicate (N.length - vs.length) none := rfl
end
/-- the ends of a def -/
abbrev DEnds.fn (R : D → Prop) : DEnds := { nx := fun _ => R .non, rt := fun d _ => R d }
section
variable {P : Program} {w : World} {K : PySem.W.Frag} {mg : Str → Option Value} {base : Heap}
/-- THE RULE for a def -/
theorem Fun_okD {x qual : Str} {st : Stmt} {f : Addr} {fd : FuncData} {N ps : List Str} {k : Nat} {m : Mode} {W : BSpec} (F : Fun K x qual st f fd) (S : FnScope N ps (defScope st)) (len : ∀ B ds R, W B ds R → ds.length = ps.length)
    (hbody : ∀ (B : List Addr) (cdv : Value) (A : Around) (outer : List PySem.Env) (s : Shared) (H : Hp) (E : XK), Room k (A.deeper (envOfC qual (defScope st) s.heap.objs.size f cdv)) →
      ∃ g, DSs (cxOf CX0 P w K mg base N qual (defScope st) f cdv A outer s H E).nox B (defBody st) 0 m g ∧ ∀ ds R, W B ds R → g (DEnds.fn R) (startE N ds)) : FnOk P w K mg base CX0 (k + 1) f fd ps (spD K m W) := by
  refine F.ok S (fun vs H Q E ⟨B, F, ds, R, w, r, hW, k⟩ => by rw [r.length]; exact len B ds R hW) fun cdv A outer s H vs Q E hr ⟨B, F, ds, R, w, r, hW, k⟩ => ?_
  obtain ⟨g, hg, hq⟩ := hbody B cdv A outer s H E hr
  refine ⟨_, hg, [], prot B [] H, F, F, startE N ds, [], DEnds.fn R, rfl, ⟨w, ?_, List.nodup_nil, fun a h => (by cases h), prot_same, fun a h => prot_in (.inr h), fun _ _ h => h, fun a u h => .inl h, fun i v e => (by simp at e)⟩, hq ds R hW, ?_⟩
  · rw [start_eq]
    unfold startE
    rw [r.length]
    exact ownE_start _ r
  have back : ∀ {F' H' : Hp} {σ' : L2.St} {ρ' : Env} {fp' : List Addr}, StOk K B [] (prot B [] H) F F' H' σ' ρ' fp' → Step B [] F H F' H' := fun {F' H' σ' ρ' fp'} T =>
    ⟨fun a o hb e => T.z a o (by rw [prot_out (by simp) hb]; exact e), T.f, fun a u e => by
      rcases T.fr a u e with z | z | z
      · exact .inl z
      · right; left
        by_cases hb : a ∈ B
        · have := T.wf.outB hb
          rw [this] at e; cases e
        · rw [prot_out (by simp) hb] at z; exact z
      · exact .inr (.inr (.inl z)), T.wf⟩
  exact ⟨fun F' H' σ' ρ' fp' T h => k F' H' .non .non [] (back T) (Val.atom rfl fun _ => .non) (fun a h => (by cases h)) List.nodup_nil h,
    fun F' H' σ' ρ' fp' v d f T hv ap h => k F' H' v d f (back T) hv (fun a ha => by
      obtain ⟨h1, h2, h3, h4⟩ := ap.1 a ha
      refine ⟨.inr ?_, h1, h2⟩
      rw [prot_out (by simp) h2] at h3; exact h3) ap.2 h,
    fun _ _ _ _ _ _ h => h.elim, fun _ _ _ _ _ _ h => h.elim⟩
end

/-! ### calls -/
theorem ValL.rl0 {K : PySem.W.Frag} {B : List Addr} {F H : Hp} {ms : List Mode} {vs : List V} {ds : List D} {fp : List Addr} (hm : ∀ m ∈ ms, m = .own 0) (h : ValL K B F H ms vs ds fp) : RL K F vs ds := (h.own hm).toRL0
theorem ValL.rd {K : PySem.W.Frag} {B : List Addr} {F H : Hp} (w : WF B F H) : ∀ {ms : List Mode} {vs : List V} {ds : List D} {fp : List Addr}, (∀ a ∈ fp, a ∉ B) → ValL K B F H ms vs ds fp → RL K (rdH B H) vs ds
  | [], [], [], _, _, h => .nil
  | m :: ms, v :: vs, d :: ds, fp, hB, ⟨f1, f2, e, h, t⟩ => .cons (h.rd w fun a ha => hB a (by rw [e]; exact List.mem_append_left _ ha)) (ValL.rd w (fun a ha => hB a (by rw [e]; exact List.mem_append_right _ ha)) t)
section
variable {K : PySem.W.Frag} {B A : List Addr} {F F' H H' : Hp} {n : Nat} {R : D → Prop} {Q : VK} {W : BSpec} {vs : List V} {ds : List D}
theorem wf_rd (w : WF B F H) : WF B (rdH B H) H := ⟨fun _ _ h => h, w.lock, w.bag⟩
/-- a call whose arguments are all that may be read -/
theorem call_all {m : Mode} (w : WF B F H) (r : RL K F vs ds) (h : W B ds R) (k : Post K B A F H m R Q) : spD K m W vs H Q fun _ _ _ => False :=
  ⟨B, F, ds, R, w, r, h, k.after (Step.refl w) fun a h => (by cases h)⟩
/-- a call whose arguments are some that others own: what comes back is flat below what is new -/
theorem call_rd (w : WF B F H) (r : RL K (rdH B H) vs ds) (h : W B ds fun d => flatN n d = true ∧ R d) (k : Post K B A F H (.own n) R Q) : spD K (.own n) W vs H Q fun _ _ _ => False := by
  refine ⟨B, rdH B H, ds, _, wf_rd w, r, h, fun F' H' v d fp s hv ho hn hR => ?_⟩
  have hv : Own K F' H' n v d fp := hv
  have s2 : Step B A F H F H' := ⟨s.same, fun _ _ h => h, fun _ _ h => .inl h, ⟨fun a u e => rdH_same s.same a u (w.sub a u e), s.wf.lock, s.wf.bag⟩⟩
  have ht := hv.there
  refine k _ H' v d fp s2.addT (Own.flat (fun a vs e => addT_tup s2.wf.sub (s.wf.sub _ _ e)) hR.1 hv) (fun a ha => ?_) hn hR.2
  obtain ⟨h1, h2, h3⟩ := ho a ha
  refine ⟨h1.elim (fun h => by cases h) .inr, ?_, h3⟩
  have hz : H a = none := h1.elim (fun h => by cases h) id
  obtain ⟨o, e, mu⟩ := ht a ha
  cases q : addT F (rdH B H') a with
  | none => rfl
  | some u =>
    exfalso
    rcases addT_cases q with z | ⟨z, t⟩
    · rw [F_none w hz] at z; cases z
    · obtain ⟨_, x, ex, er⟩ := rdH_some z
      rw [e] at ex; cases ex
      rw [mut_er mu] at er; subst er
      cases o <;> first | exact mu | exact t
end
/-- is any argument another's -/
abbrev gCall (W : FSpec) (xs : List D) (R : D → Prop) : Prop := W xs R
abbrev gCallR (n : Nat) (W : FSpec) (xs : List D) (R : D → Prop) : Prop := W xs fun d => flatN n d = true ∧ R d
section
variable {X : Cx} {k : Nat} {fa C : Addr} {fd : FuncData} {ps : List Str} {ds : List Value} {dvs : List V} {x : Str} {p pos apos : Pos} {e o : Expr} {es : List Expr} {m mo : Mode} {ms : List Mode} {fs : FA} {fo : FE} {W : BSpec} {dd : List D} {n : Nat}
/-- what a call of a def wants of its defaults: they are data of the written part -/
abbrev Dflt (K : PySem.W.Frag) (dvs : List V) (dd : List D) : Prop := ∀ F, RL K F dvs dd
theorem de_call (F : FnOk X.prog X.w X.K X.mg X.base CX0 k fa fd ps (spD X.K m W)) (hr : Room k X.A) (hg : Gl X x) (hm : X.mg x = some (.ref fa)) (hk : PySem.W.keepIn X.K (.ref fa) = true) (hb : Binds X.K fd ps ds) (hd : Vals dvs ds) (hdd : Dflt X.K dvs dd)
    (ha : DA X B (e :: es) ms fs) (hms : ∀ m ∈ ms, m = .own 0 := by simp) (hdb : (x == ("__debug__" : Str)) = false := by decide) (he : starEach (e :: es) X.env = (false, eval e X.env) :: starEach es X.env := by rfl) (hpl : (backTo pos (starEach es X.env)).any (·.1) = false := by rfl) :
    DE X B (.Call (.Name x p) (e :: es) [] pos) m (fArgs (fun xs R => W B (xs ++ dd) R) fs) :=
  PE.imp (pe_call F hr hg hm hk hb hd pass0 ha hdb he hpl) fun σ H Q ⟨F, ρ, fp, R, S, hf, k⟩ => ⟨F, ρ, fp, _, S, hf, fun F1 H1 vs xs fp1 s1 hv o1 n1 hW =>
    call_all s1.wf ((hv.rl0 hms).append (hdd F1)) hW (k.after s1 (A1 := fp1) fun a ha => (o1 a ha).1)⟩
theorem de_callR (F : FnOk X.prog X.w X.K X.mg X.base CX0 k fa fd ps (spD X.K (.own n) W)) (hr : Room k X.A) (hg : Gl X x) (hm : X.mg x = some (.ref fa)) (hk : PySem.W.keepIn X.K (.ref fa) = true) (hb : Binds X.K fd ps ds) (hd : Vals dvs ds) (hdd : Dflt X.K dvs dd)
    (ha : DA X B (e :: es) ms fs) (hdb : (x == ("__debug__" : Str)) = false := by decide) (he : starEach (e :: es) X.env = (false, eval e X.env) :: starEach es X.env := by rfl) (hpl : (backTo pos (starEach es X.env)).any (·.1) = false := by rfl) :
    DE X B (.Call (.Name x p) (e :: es) [] pos) (.own n) (fArgs (fun xs R => W B (xs ++ dd) fun d => flatN n d = true ∧ R d) fs) :=
  PE.imp (pe_call F hr hg hm hk hb hd pass0 ha hdb he hpl) fun σ H Q ⟨F, ρ, fp, R, S, hf, k⟩ => ⟨F, ρ, fp, _, S, hf, fun F1 H1 vs xs fp1 s1 hv o1 n1 hW =>
    call_rd s1.wf ((hv.rd s1.wf fun a ha => (o1 a ha).2.2).append (hdd _)) hW (k.after s1 (A1 := fp1) fun a ha => (o1 a ha).1)⟩
theorem de_call0 (F : FnOk X.prog X.w X.K X.mg X.base CX0 k fa fd ps (spD X.K m W)) (hr : Room k X.A) (hg : Gl X x) (hm : X.mg x = some (.ref fa)) (hk : PySem.W.keepIn X.K (.ref fa) = true) (hb : Binds X.K fd ps ds) (hd : Vals dvs ds) (hdd : Dflt X.K dvs dd)
    (hdb : (x == ("__debug__" : Str)) = false := by decide) : DE X B (.Call (.Name x p) [] [] pos) m (fun _ R => W B dd R) :=
  PE.imp (pe_call0 F hr hg hm hk hb hd pass0 hdb) fun σ H Q ⟨F, ρ, fp, R, S, hf, k⟩ => by
    have := call_all (K := X.K) (vs := [] ++ dvs) (ds := dd) S.wf (hdd F) hf k
    exact this
/-- o.m(e, ..) : the object is one that may be read -/
theorem lookup_none {fs : List (Str × V)} {es : List (Str × D)} {m : Str} (hk : fs.map (·.1) = es.map (·.1)) (h : es.lookup m = none) : fs.lookup m = none := by
  induction fs generalizing es with
  | nil => rfl
  | cons p r ih =>
    cases es with
    | nil => cases hk
    | cons q s =>
      rw [List.map_cons, List.map_cons] at hk
      injection hk with h1 h2
      obtain ⟨pk, pv⟩ := p
      obtain ⟨qk, qv⟩ := q
      dsimp only at h1
      subst h1
      rw [List.lookup_cons] at h ⊢
      cases hb : m == pk with
      | true => rw [hb] at h; cases h
      | false => rw [hb] at h; exact ih h2 h
theorem lookup_some {fs : List (Str × V)} {es : List (Str × D)} {m : Str} {d : D} (hk : fs.map (·.1) = es.map (·.1)) (h : es.lookup m = some d) : ∃ (i : Nat) (v : V), fs.lookup m = some v ∧ (fs.map (·.2))[i]? = some v ∧ (es.map (·.2))[i]? = some d := by
  induction fs generalizing es with
  | nil =>
    cases es with
    | nil => cases h
    | cons q s => cases hk
  | cons p r ih =>
    cases es with
    | nil => cases hk
    | cons q s =>
      rw [List.map_cons, List.map_cons] at hk
      injection hk with h1 h2
      obtain ⟨pk, pv⟩ := p
      obtain ⟨qk, qv⟩ := q
      dsimp only at h1
      subst h1
      rw [List.lookup_cons] at h ⊢
      cases hb : m == pk with
      | true =>
        rw [hb] at h
        exact ⟨0, pv, rfl, rfl, by simpa using h⟩
      | false =>
        rw [hb] at h
        obtain ⟨i, v, e1, e2, e3⟩ := ih h2 h
        exact ⟨i + 1, v, e1, by simpa using e2, by simpa using e3⟩
/-- an instance of the class, without an attribute of the method's name -/
def isObjD (C : Addr) (m : Str) : D → Prop
  | .obj C' es => C' = C ∧ es.lookup m = none
  | _ => False
theorem isObjD.inv {C : Addr} {m : Str} : ∀ {d : D}, isObjD C m d → ∃ es, d = .obj C es ∧ es.lookup m = none
  | .obj C' es, h => ⟨es, by rw [h.1], h.2⟩
  | .non, h | .bl _, h | .int _, h | .str _, h | .raw _, h | .tup _, h | .lst _, h | .dK _, h | .dT _, h => h.elim
theorem de_meth {mt : Str} {pl : Sem Bool} (ho : DE X B o (.own 0) fo) (c : Cls X.K C) (hm : Meth X.K C mt fa) (F : FnOk X.prog X.w X.K X.mg X.base CX0 k fa fd ps (spD X.K m W)) (hr : Room k X.A) (hb : Binds X.K fd ps ds) (hd : Vals dvs ds) (hdd : Dflt X.K dvs dd)
    (ha : DA X B (e :: es) ms fs) (hms : ∀ m ∈ ms, m = .own 0 := by simp)
    (hst : starEach (e :: es) X.env = (false, eval e X.env) :: starEach es X.env := by rfl) (hpl : (backTo pos (starEach es X.env)).any (·.1) = false := by rfl)
    (ht : eval (.Call (.Attribute o mt apos) (e :: es) [] pos) X.env = (do
      let ov ← eval o X.env
      standAt apos.atName
      let (f, first) ← holding [ov] (getMethod ov mt pl)
      callWith pos f first (backTo pos (starEach (e :: es) X.env)) (backToKw pos (keywordEach [] X.env))) := by rfl) :
    DE X B (.Call (.Attribute o mt apos) (e :: es) [] pos) m (fun ρ R => fo ρ fun x => isObjD C mt x ∧ fs ρ fun xs => W B (x :: (xs ++ dd)) R) :=
  PE.imp (pe_meth ho c hm F hr hb hd pass0 ha hst hpl ht) fun σ H Q ⟨F, ρ, fp, R, S, hf, k⟩ => by
    refine ⟨F, ρ, fp, _, S, hf, fun F1 H1 v x f1 s1 hv o1 n1 ⟨hx, hg⟩ => ?_⟩
    obtain ⟨es', rfl, hl'⟩ := hx.inv
    obtain ⟨ef, a, dx, gs, ev, ea, hk, it⟩ := hv.obj rfl s1.wf
    subst ev
    refine ⟨a, dx, gs, rfl, ea, lookup_none hk hl', F1, ρ, fp, _, S.step s1 (fun a ha => by cases ha), hg, fun F2 H2 vs xs f2 s2 hv2 o2 n2 hW => ?_⟩
    have hx1 : GK.R X.K F2 (.ref a) (.obj C es') := hv.1.mono s2.fs
    exact call_all s2.wf (.cons hx1 ((hv2.rl0 hms).append (hdd F2))) hW ((k.after s1 (A1 := []) fun a ha => (by cases ha)).after s2 (A1 := f2) fun a ha => (o2 a ha).1)
end
end GK

namespace GK
open PySem PySem.Spec PyProof.Rows L2

/-! ### attributes -/
def gFld (C : Addr) (f : Str) : D → (D → Prop) → Prop
  | .obj C' es, R => C' = C ∧ ∃ d, es.lookup f = some d ∧ R d
  | _, _ => False
section
variable {X : Cx} {e : Expr} {f : Str} {pos : Pos} {m : Mode} {fo : FE} {C : Addr}
theorem de_fld (he : DE X B e m fo) (hm : m.look = true) (c : Cls X.K C) (nf : NoAttr X.K C f) (hb : attributeBase e f X.env (eval e X.env) = eval e X.env := by rfl) : DE X B (.Attribute e f pos) m.child (fUn (gFld C f) fo) :=
  PE.imp (pe_fld he hb) fun σ H Q h => tD_un (m := m.child) (g := gFld C f) (f := fo) (r := fun x H1 Q => ∃ a C' dx fs v, x = .ref a ∧ H1 a = some (.ins C' dx fs) ∧ Cls X.K C' ∧ NoAttr X.K C' f ∧ fs.lookup f = some v ∧ Q v H1) (by
    intro B F H x d fp R Q w hv hf hg k
    cases d <;> try exact hg.elim
    rename_i C' es
    obtain ⟨rfl, d, hl, hR⟩ := hg
    obtain ⟨ef, a, dx, fs, ev, ea, hk, it⟩ := hv.obj hm w
    obtain ⟨i, v, e1, e2, e3⟩ := lookup_some hk hl
    obtain ⟨v', e4, hv'⟩ := it.2 i d e3
    rw [e2] at e4
    cases e4
    exact ⟨a, C', dx, fs, v, ev, ea, c, nf, e1, k.val w hv' hR⟩) h
end
theorem ne_mem {l : List Addr} {a b : Addr} (h : b ∈ l) (h' : a ∉ l) : b ≠ a := fun z => by subst z; exact h' h
/-! ### what changes an object: it is taken out of its name, changed, and put back -/
section
variable {K : PySem.W.Frag} {B fp : List Addr} {Pn : List V} {Z0 F0 F H : Hp} {σ : L2.St} {ρ : Env} {n : Nat}
theorem StOk.put {v : V} {d : D} {f : List Addr} {i : Nat} (S : StOk K B Pn Z0 F0 F H σ ρ fp) (h : Own K F H n v d f) (ap : Apart B Z0 F fp f) (hi : i < ρ.length) (hv : σ[i]? = some (some v)) :
    ∃ fp', StOk K B Pn Z0 F0 F H σ (ρ.set i (some (n, d))) fp' := by
  have nd : (fp ++ f).Nodup := List.nodup_append.mpr ⟨S.nd, ap.2, fun a ha b hb e => by
    subst e
    exact (ap.1 a hb).2.2.2 ha⟩
  obtain ⟨fp', o', nd', sub⟩ := OwnE.set h S.own nd hi
  rw [set_self hv] at o'
  refine ⟨fp', S.wf, o', nd', fun a ha => ?_, S.z, S.zB, S.f, S.fr, S.pn⟩
  rcases sub a ha with z | z
  · exact S.out a z
  · obtain ⟨h1, h2, h3, _⟩ := ap.1 a z
    exact ⟨h1, h2, h3⟩
theorem WF.mut {a : Addr} {o : HO} (w : WF B F H) (hF : F a = none) (hB : a ∉ B) (ho : erO o = o) : WF B F (upd H a o) :=
  ⟨fun b u e => by
    have hb : b ≠ a := fun z => by rw [z, hF] at e; cases e
    obtain ⟨hB', x, ex, er⟩ := rdH_some (w.sub b u e)
    exact rdH_of hB' (by rw [upd_ne hb]; exact ex) er, fun b ob u hb e => by
    by_cases h : b = a
    · subst h
      rw [upd_same] at e
      have e' : o = .frz ob u := Option.some.inj e
      rw [e'] at ho
      have z : u = .frz ob u := ho
      have : sizeOf u = sizeOf (HO.frz ob u) := congrArg sizeOf z
      simp at this
    · rw [upd_ne h] at e; exact w.lock b ob u hb e, w.bag.keep fun b hb u h => by
    rw [upd_ne (ne_mem hb hB)]; exact h⟩
theorem StOk.mut {a : Addr} {o : HO} (S : StOk K B Pn Z0 F0 F H σ ρ fp) (ha : a ∉ fp) (hF : F a = none) (hB : a ∉ B) (hZ : Z0 a = none) (ho : erO o = o) : StOk K B Pn Z0 F0 F (upd H a o) σ ρ fp :=
  ⟨S.wf.mut hF hB ho, S.own.mono (fun _ _ h => h) fun b hb u e => by rw [upd_ne (ne_mem hb ha)]; exact e, S.nd, S.out, fun b u e => by
    rw [upd_ne (fun z => by rw [z, hZ] at e; cases e)]; exact S.z b u e, S.zB, S.f, S.fr, S.pn⟩
/-- the node at the top of an owned thing is changed: more may be owned then -/
theorem StOk.change {d : D} {i : Nat} {P : Addr → HO → List Addr → Prop} (S : StOk K B Pn Z0 F0 F H σ ρ fp) (e : slot ρ i = some (n + 1, d))
    (hd : ∀ v f, Own K F H (n + 1) v d f → ∃ a g o, v = .ref a ∧ f = a :: g ∧ H a = some o ∧ P a o g) :
    ∃ a g o, σ[i]? = some (some (.ref a)) ∧ H a = some o ∧ P a o g ∧ a ∉ g ∧ g.Nodup ∧ (∀ b ∈ a :: g, b ∈ fp) ∧ ∀ o' d' g' fc, erO o' = o' → Apart B Z0 F fp fc → (∀ b ∈ g', b ∈ g ∨ b ∈ fc) → g'.Nodup →
      Own K F (upd H a o') (n + 1) (.ref a) d' (a :: g') → ∃ fp', StOk K B Pn Z0 F0 F (upd H a o') σ (ρ.set i (some (n + 1, d'))) fp' := by
  obtain ⟨v, f, fp1, e1, e2, S1, ap1, sub⟩ := S.take e
  obtain ⟨a, g, o, rfl, rfl, ha, hP⟩ := hd v f e2
  obtain ⟨hag, hg⟩ := List.nodup_cons.mp ap1.2
  refine ⟨a, g, o, e1, ha, hP, hag, hg, fun b hb => sub b (List.mem_append_right _ hb), fun o' d' g' fc ho ap hs hn' ho' => ?_⟩
  obtain ⟨h1, h2, h3, h4⟩ := ap1.1 a List.mem_cons_self
  have S2 := S1.mut h4 h1 h2 h3 ho
  have hi : i < (ρ.set i none).length := by rw [List.length_set]; exact slot_lt e
  have hac : a ∉ fc := fun z => (ap.1 a z).2.2.2 (sub a (List.mem_append_right _ List.mem_cons_self))
  have ap' : Apart B Z0 F fp1 (a :: g') := by
    refine ⟨fun b hb => ?_, List.nodup_cons.mpr ⟨fun z => (hs a z).elim hag hac, hn'⟩⟩
    rcases List.mem_cons.mp hb with z | z
    · rw [z]; exact ⟨h1, h2, h3, h4⟩
    · rcases hs b z with q | q
      · exact ap1.1 b (List.mem_cons_of_mem _ q)
      · obtain ⟨k1, k2, k3, k4⟩ := ap.1 b q
        exact ⟨k1, k2, k3, fun r => k4 (sub b (List.mem_append_left _ r))⟩
  obtain ⟨fp', S3⟩ := S2.put (i := i) ho' ap' hi e1
  rw [List.set_set] at S3
  exact ⟨fp', S3⟩
theorem own_lst {ds : List D} : ∀ v f, Own K F H (n + 1) v (.lst ds) f → ∃ a g o, v = .ref a ∧ f = a :: g ∧ H a = some o ∧ ∃ vs, o = .lst vs ∧ OwnL (Own K F H n) vs ds g :=
  fun v f ⟨a, vs, g, e1, e2, e3, e4⟩ => ⟨a, g, .lst vs, e1, e3, e2, vs, rfl, e4⟩
theorem own_dK {es : List (Key × D)} : ∀ v f, Own K F H (n + 1) v (.dK es) f → ∃ a g o, v = .ref a ∧ f = a :: g ∧ H a = some o ∧ ∃ kvs, o = .dK kvs ∧ kvs.map (·.1) = es.map (·.1) ∧ OwnL (Own K F H n) (kvs.map (·.2)) (es.map (·.2)) g :=
  fun v f ⟨a, vs, g, e1, e2, e3, e4, e5⟩ => ⟨a, g, .dK vs, e1, e3, e2, vs, rfl, e4, e5⟩
theorem own_dT {es : List (List Key × D)} : ∀ v f, Own K F H (n + 1) v (.dT es) f → ∃ a g o, v = .ref a ∧ f = a :: g ∧ H a = some o ∧ ∃ kvs, o = .dT kvs ∧ kvs.map (·.1) = es.map (·.1) ∧ OwnL (Own K F H n) (kvs.map (·.2)) (es.map (·.2)) g :=
  fun v f ⟨a, vs, g, e1, e2, e3, e4, e5⟩ => ⟨a, g, .dT vs, e1, e3, e2, vs, rfl, e4, e5⟩
theorem own_obj {C : Addr} {es : List (Str × D)} : ∀ v f, Own K F H (n + 1) v (.obj C es) f → ∃ a g o, v = .ref a ∧ f = a :: g ∧ H a = some o ∧ ∃ dx fs, o = .ins C dx fs ∧ fs.map (·.1) = es.map (·.1) ∧ OwnL (Own K F H n) (fs.map (·.2)) (es.map (·.2)) g :=
  fun v f ⟨a, dx, vs, g, e1, e2, e3, e4, e5⟩ => ⟨a, g, .ins C dx vs, e1, e3, e2, dx, vs, rfl, e4, e5⟩
/-- what was owned stays so when another node changes -/
theorem OwnL.upd {vs : List V} {ds : List D} {g : List Addr} {a : Addr} {o : HO} (h : OwnL (Own K F H n) vs ds g) (ha : a ∉ g) : OwnL (Own K F (upd H a o) n) vs ds g :=
  h.imp fun v d f hf => Own.mono (fun _ _ h => h) fun b hb u e => by rw [upd_ne (ne_mem (hf b hb) ha)]; exact e
theorem Own.upd {v : V} {d : D} {g : List Addr} {a : Addr} {o : HO} (h : Own K F H n v d g) (ha : a ∉ g) : Own K F (upd H a o) n v d g :=
  Own.mono (fun _ _ h => h) (fun b hb u e => by rw [upd_ne (ne_mem hb ha)]; exact e) h
theorem OwnL.append {P : V → D → List Addr → Prop} : ∀ {vs ws : List V} {ds es : List D} {f g : List Addr}, OwnL P vs ds f → OwnL P ws es g → OwnL P (vs ++ ws) (ds ++ es) (f ++ g)
  | [], ws, [], es, f, g, h, k => by
    have e : f = [] := h
    rw [e]; exact k
  | v :: vs, ws, d :: ds, es, f, g, ⟨f1, f2, e, h, t⟩, k => ⟨f1, f2 ++ g, by rw [e, List.append_assoc], h, OwnL.append t k⟩
theorem OwnL.one {P : V → D → List Addr → Prop} {v : V} {d : D} {f : List Addr} (h : P v d f) : OwnL P [v] [d] f := ⟨f, [], (List.append_nil f).symm, h, rfl⟩
theorem OwnL.set {P : V → D → List Addr → Prop} {v : V} {d : D} {g : List Addr} (q : P v d g) : ∀ {vs : List V} {ds : List D} {f : List Addr} (i : Nat), OwnL P vs ds f → (f ++ g).Nodup → ∃ f', OwnL P (vs.set i v) (ds.set i d) f' ∧ (∀ a ∈ f', a ∈ f ∨ a ∈ g) ∧ f'.Nodup
  | [], [], f, i, h, nd => ⟨f, h, fun a ha => .inl ha, (List.nodup_append.mp nd).1⟩
  | v' :: vs, d' :: ds, f, 0, ⟨f1, f2, e, h, t⟩, nd => by
    subst e
    refine ⟨g ++ f2, ⟨g, f2, rfl, q, t⟩, fun a ha => ?_, ?_⟩
    · rcases List.mem_append.mp ha with z | z
      · exact .inr z
      · exact .inl (List.mem_append_right _ z)
    · rw [List.append_assoc] at nd
      exact nd_comm (List.nodup_append.mp nd).2.1
  | v' :: vs, d' :: ds, f, i + 1, ⟨f1, f2, e, h, t⟩, nd => by
    subst e
    rw [List.append_assoc] at nd
    obtain ⟨n1, n2, n3⟩ := List.nodup_append.mp nd
    obtain ⟨f', h', sub, nd'⟩ := OwnL.set q i t n2
    refine ⟨f1 ++ f', ⟨f1, f', rfl, h, h'⟩, fun a ha => ?_, List.nodup_append.mpr ⟨n1, nd', fun a ha b hb e => ?_⟩⟩
    · rcases List.mem_append.mp ha with z | z
      · exact .inl (List.mem_append_left _ z)
      · rcases sub a z with z | z
        · exact .inl (List.mem_append_right _ z)
        · exact .inr z
    · subst e
      rcases sub a hb with z | z
      · exact n3 a ha a (List.mem_append_left _ z) rfl
      · exact n3 a ha a (List.mem_append_right _ z) rfl
/-- some are left out -/
theorem OwnL.erase {P : V → D → List Addr → Prop} : ∀ {vs : List V} {ds : List D} {f : List Addr} (i : Nat), OwnL P vs ds f → f.Nodup → ∃ f', OwnL P (vs.eraseIdx i) (ds.eraseIdx i) f' ∧ (∀ a ∈ f', a ∈ f) ∧ f'.Nodup ∧
      ∀ v, vs[i]? = some v → ∃ d g, ds[i]? = some d ∧ P v d g ∧ (f' ++ g).Nodup ∧ ∀ a ∈ g, a ∈ f
  | [], [], f, i, h, nd => ⟨f, h, fun a ha => ha, nd, fun v e => by simp at e⟩
  | v' :: vs, d' :: ds, f, 0, ⟨f1, f2, e, h, t⟩, nd => by
    subst e
    obtain ⟨n1, n2, n3⟩ := List.nodup_append.mp nd
    refine ⟨f2, t, fun a ha => List.mem_append_right _ ha, n2, fun v e => ⟨d', f1, rfl, ?_, nd_comm nd, fun a ha => List.mem_append_left _ ha⟩⟩
    have e' : v' = v := Option.some.inj e
    subst e'; exact h
  | v' :: vs, d' :: ds, f, i + 1, ⟨f1, f2, e, h, t⟩, nd => by
    subst e
    obtain ⟨n1, n2, n3⟩ := List.nodup_append.mp nd
    obtain ⟨f', h', sub, nd', k⟩ := OwnL.erase i t n2
    refine ⟨f1 ++ f', ⟨f1, f', rfl, h, h'⟩, fun a ha => ?_, List.nodup_append.mpr ⟨n1, nd', fun a ha b hb e => n3 a ha b (sub b hb) e⟩, fun v e => ?_⟩
    · rcases List.mem_append.mp ha with z | z
      · exact List.mem_append_left _ z
      · exact List.mem_append_right _ (sub a z)
    · obtain ⟨d, g, e1, e2, e3, e4⟩ := k v e
      refine ⟨d, g, e1, e2, ?_, fun a ha => List.mem_append_right _ (e4 a ha)⟩
      rw [List.append_assoc]
      exact List.nodup_append.mpr ⟨n1, e3, fun a ha b hb e => n3 a ha b ((List.mem_append.mp hb).elim (sub b) (e4 b)) e⟩
end
end GK

namespace GK
open PySem PySem.Spec PyProof.Rows L2

/-! ### methods that change a name's own list -/
/-- a name's own list, and what is done with it -/
def ownLst (ρ : Env) (i n : Nat) (k : List D → Prop) : Prop := match slot ρ i with
  | some (m, .lst ds) => m = n + 1 ∧ k ds
  | _ => False
theorem ownLst.inv {ρ : Env} {i n : Nat} {k : List D → Prop} (h : ownLst ρ i n k) : ∃ ds, slot ρ i = some (n + 1, .lst ds) ∧ k ds := by
  unfold ownLst at h
  split at h
  · rename_i m ds e
    obtain ⟨rfl, h⟩ := h
    exact ⟨ds, e, h⟩
  · exact h.elim
def ownDK (ρ : Env) (i n : Nat) (k : List (Key × D) → Prop) : Prop := match slot ρ i with
  | some (m, .dK ds) => m = n + 1 ∧ k ds
  | _ => False
theorem ownDK.inv {ρ : Env} {i n : Nat} {k : List (Key × D) → Prop} (h : ownDK ρ i n k) : ∃ ds, slot ρ i = some (n + 1, .dK ds) ∧ k ds := by
  unfold ownDK at h
  split at h
  · rename_i m ds e
    obtain ⟨rfl, h⟩ := h
    exact ⟨ds, e, h⟩
  · exact h.elim
def ownDT (ρ : Env) (i n : Nat) (k : List (List Key × D) → Prop) : Prop := match slot ρ i with
  | some (m, .dT ds) => m = n + 1 ∧ k ds
  | _ => False
theorem ownDT.inv {ρ : Env} {i n : Nat} {k : List (List Key × D) → Prop} (h : ownDT ρ i n k) : ∃ ds, slot ρ i = some (n + 1, .dT ds) ∧ k ds := by
  unfold ownDT at h
  split at h
  · rename_i m ds e
    obtain ⟨rfl, h⟩ := h
    exact ⟨ds, e, h⟩
  · exact h.elim
def ownObj (C : Addr) (ρ : Env) (i n : Nat) (k : List (Str × D) → Prop) : Prop := match slot ρ i with
  | some (m, .obj C' ds) => m = n + 1 ∧ C' = C ∧ k ds
  | _ => False
theorem ownObj.inv {C : Addr} {ρ : Env} {i n : Nat} {k : List (Str × D) → Prop} (h : ownObj C ρ i n k) : ∃ ds, slot ρ i = some (n + 1, .obj C ds) ∧ k ds := by
  unfold ownObj at h
  split at h
  · rename_i m C' ds e
    obtain ⟨rfl, rfl, h⟩ := h
    exact ⟨ds, e, h⟩
  · exact h.elim
section
variable {K : PySem.W.Frag} {B fp : List Addr} {Pn : List V} {Z0 F0 F H : Hp} {σ : L2.St} {ρ : Env} {n i : Nat}
/-- the own list at a name -/
theorem StOk.lst {ds : List D} (S : StOk K B Pn Z0 F0 F H σ ρ fp) (e : slot ρ i = some (n + 1, .lst ds)) :
    ∃ a vs g, σ[i]? = some (some (.ref a)) ∧ H a = some (.lst vs) ∧ OwnL (Own K F H n) vs ds g ∧ a ∉ g ∧ g.Nodup ∧ (∀ b ∈ a :: g, b ∈ fp) ∧ ∀ vs' ds' g' fc, Apart B Z0 F fp fc → (∀ b ∈ g', b ∈ g ∨ b ∈ fc) → g'.Nodup → OwnL (Own K F H n) vs' ds' g' →
      ∃ fp', StOk K B Pn Z0 F0 F (upd H a (.lst vs')) σ (ρ.set i (some (n + 1, .lst ds'))) fp' := by
  obtain ⟨a, g, o, h1, h2, ⟨vs, rfl, h3⟩, h4, h5, h6, k⟩ := S.change e own_lst
  refine ⟨a, vs, g, h1, h2, h3, h4, h5, h6, fun vs' ds' g' fc ap hs nd ho => k (.lst vs') _ g' fc rfl ap hs nd ⟨a, vs', g', rfl, upd_same, rfl, ho.upd fun z => (hs a z).elim h4 fun z => (ap.1 a z).2.2.2 (h6 a List.mem_cons_self)⟩⟩
theorem StOk.dK {ds : List (Key × D)} (S : StOk K B Pn Z0 F0 F H σ ρ fp) (e : slot ρ i = some (n + 1, .dK ds)) :
    ∃ a kvs g, σ[i]? = some (some (.ref a)) ∧ H a = some (.dK kvs) ∧ kvs.map (·.1) = ds.map (·.1) ∧ OwnL (Own K F H n) (kvs.map (·.2)) (ds.map (·.2)) g ∧ a ∉ g ∧ g.Nodup ∧ (∀ b ∈ a :: g, b ∈ fp) ∧ ∀ (kvs' : List (Key × V)) (ds' : List (Key × D)) g' fc, Apart B Z0 F fp fc → (∀ b ∈ g', b ∈ g ∨ b ∈ fc) → g'.Nodup → kvs'.map (·.1) = ds'.map (·.1) → OwnL (Own K F H n) (kvs'.map (·.2)) (ds'.map (·.2)) g' →
      ∃ fp', StOk K B Pn Z0 F0 F (upd H a (.dK kvs')) σ (ρ.set i (some (n + 1, .dK ds'))) fp' := by
  obtain ⟨a, g, o, h1, h2, ⟨vs, rfl, hk, h3⟩, h4, h5, h6, k⟩ := S.change e own_dK
  refine ⟨a, vs, g, h1, h2, hk, h3, h4, h5, h6, fun vs' ds' g' fc ap hs nd hk' ho => k (.dK vs') _ g' fc rfl ap hs nd ⟨a, vs', g', rfl, upd_same, rfl, hk', ho.upd fun z => (hs a z).elim h4 fun z => (ap.1 a z).2.2.2 (h6 a List.mem_cons_self)⟩⟩
theorem StOk.dT {ds : List (List Key × D)} (S : StOk K B Pn Z0 F0 F H σ ρ fp) (e : slot ρ i = some (n + 1, .dT ds)) :
    ∃ a kvs g, σ[i]? = some (some (.ref a)) ∧ H a = some (.dT kvs) ∧ kvs.map (·.1) = ds.map (·.1) ∧ OwnL (Own K F H n) (kvs.map (·.2)) (ds.map (·.2)) g ∧ a ∉ g ∧ g.Nodup ∧ (∀ b ∈ a :: g, b ∈ fp) ∧ ∀ (kvs' : List (List Key × V)) (ds' : List (List Key × D)) g' fc, Apart B Z0 F fp fc → (∀ b ∈ g', b ∈ g ∨ b ∈ fc) → g'.Nodup → kvs'.map (·.1) = ds'.map (·.1) → OwnL (Own K F H n) (kvs'.map (·.2)) (ds'.map (·.2)) g' →
      ∃ fp', StOk K B Pn Z0 F0 F (upd H a (.dT kvs')) σ (ρ.set i (some (n + 1, .dT ds'))) fp' := by
  obtain ⟨a, g, o, h1, h2, ⟨vs, rfl, hk, h3⟩, h4, h5, h6, k⟩ := S.change e own_dT
  refine ⟨a, vs, g, h1, h2, hk, h3, h4, h5, h6, fun vs' ds' g' fc ap hs nd hk' ho => k (.dT vs') _ g' fc rfl ap hs nd ⟨a, vs', g', rfl, upd_same, rfl, hk', ho.upd fun z => (hs a z).elim h4 fun z => (ap.1 a z).2.2.2 (h6 a List.mem_cons_self)⟩⟩
theorem StOk.obj {C : Addr} {ds : List (Str × D)} (S : StOk K B Pn Z0 F0 F H σ ρ fp) (e : slot ρ i = some (n + 1, .obj C ds)) :
    ∃ a dx kvs g, σ[i]? = some (some (.ref a)) ∧ H a = some (.ins C dx kvs) ∧ kvs.map (·.1) = ds.map (·.1) ∧ OwnL (Own K F H n) (kvs.map (·.2)) (ds.map (·.2)) g ∧ a ∉ g ∧ g.Nodup ∧ (∀ b ∈ a :: g, b ∈ fp) ∧ ∀ (kvs' : List (Str × V)) (ds' : List (Str × D)) g' fc, Apart B Z0 F fp fc → (∀ b ∈ g', b ∈ g ∨ b ∈ fc) → g'.Nodup → kvs'.map (·.1) = ds'.map (·.1) → OwnL (Own K F H n) (kvs'.map (·.2)) (ds'.map (·.2)) g' →
      ∃ fp', StOk K B Pn Z0 F0 F (upd H a (.ins C dx kvs')) σ (ρ.set i (some (n + 1, .obj C ds'))) fp' := by
  obtain ⟨a, g, o, h1, h2, ⟨dx, vs, rfl, hk, h3⟩, h4, h5, h6, k⟩ := S.change e own_obj
  refine ⟨a, dx, vs, g, h1, h2, hk, h3, h4, h5, h6, fun vs' ds' g' fc ap hs nd hk' ho => k (.ins C dx vs') _ g' fc rfl ap hs nd ⟨a, dx, vs', g', rfl, upd_same, rfl, hk', ho.upd fun z => (hs a z).elim h4 fun z => (ap.1 a z).2.2.2 (h6 a List.mem_cons_self)⟩⟩
theorem Apart.nil : Apart B Z0 F fp [] := ⟨fun a h => (by cases h), List.nodup_nil⟩
theorem nd_of {g f : List Addr} (h1 : g.Nodup) (h2 : f.Nodup) (h3 : ∀ a ∈ f, a ∉ g) : (g ++ f).Nodup := List.nodup_append.mpr ⟨h1, h2, fun a ha b hb e => by subst e; exact h3 a hb ha⟩
end
/-! the same by a list of data -/
def putD {κ : Type} [DecidableEq κ] (es : List (κ × D)) (k : κ) (d : D) : List (κ × D) :=
  if (es.any fun e => decide (e.1 = k)) = true then es.map (fun e => if e.1 = k then (e.1, d) else e) else es ++ [(k, d)]
def getD' {κ : Type} [DecidableEq κ] (es : List (κ × D)) (k : κ) : Option D := (es.find? fun e => decide (e.1 = k)).map (·.2)
section
variable {κ : Type} [DecidableEq κ] {kvs : List (κ × V)} {es : List (κ × D)}
theorem any_keys : ∀ {kvs : List (κ × V)} {es : List (κ × D)}, kvs.map (·.1) = es.map (·.1) → ∀ k : κ, (kvs.any fun e => decide (e.1 = k)) = es.any fun e => decide (e.1 = k)
  | [], [], _, _ => rfl
  | p :: r, q :: s, h, k => by
    rw [List.map_cons, List.map_cons] at h
    injection h with h1 h2
    rw [List.any_cons, List.any_cons, any_keys h2 k, h1]
  | [], _ :: _, h, _ => by cases h
  | _ :: _, [], h, _ => by cases h
theorem val_get {k : κ} : ∀ {kvs : List (κ × V)} {es : List (κ × D)}, kvs.map (·.1) = es.map (·.1) →
    (valV kvs k = none ∧ getD' es k = none) ∨ ∃ (i : Nat) (v : V) (d : D), valV kvs k = some v ∧ getD' es k = some d ∧ (kvs.map (·.2))[i]? = some v ∧ (es.map (·.2))[i]? = some d
  | [], [], _ => .inl ⟨rfl, rfl⟩
  | p :: r, q :: s, h => by
    rw [List.map_cons, List.map_cons] at h
    injection h with h1 h2
    by_cases e : p.1 = k
    · right
      refine ⟨0, p.2, q.2, valV_pos e, ?_, rfl, rfl⟩
      have e' : q.1 = k := h1 ▸ e
      simp [getD', List.find?_cons, e']
    · have e' : ¬ q.1 = k := h1 ▸ e
      have g : getD' (q :: s) k = getD' s k := by simp [getD', List.find?_cons, e']
      rw [valV_neg e, g]
      rcases val_get (k := k) h2 with ⟨a, b⟩ | ⟨i, v, d, a, b, c, c'⟩
      · exact .inl ⟨a, b⟩
      · exact .inr ⟨i + 1, v, d, a, b, by simpa using c, by simpa using c'⟩
  | [], _ :: _, h => by cases h
  | _ :: _, [], h => by cases h
theorem put_keys {v : V} {d : D} {k : κ} (h : kvs.map (·.1) = es.map (·.1)) : (putK kvs k v).map (·.1) = (putD es k d).map (·.1) := by
  unfold putK putD
  rw [any_keys h k]
  split
  · rw [List.map_map, List.map_map]
    have e1 : (fun x : κ × V => x.1) ∘ (fun kv : κ × V => if kv.1 = k then (kv.1, v) else kv) = fun x => x.1 := by
      funext x; show (if x.1 = k then (x.1, v) else x).1 = x.1; split <;> rfl
    have e2 : (fun x : κ × D => x.1) ∘ (fun kv : κ × D => if kv.1 = k then (kv.1, d) else kv) = fun x => x.1 := by
      funext x; show (if x.1 = k then (x.1, d) else x).1 = x.1; split <;> rfl
    rw [e1, e2]; exact h
  · rw [List.map_append, List.map_append, h]; rfl
theorem put_rl {K : PySem.W.Frag} {F : Hp} {v : V} {d : D} {k : κ} (q : R K F v d) (hk : kvs.map (·.1) = es.map (·.1)) (h : RL K F (kvs.map (·.2)) (es.map (·.2))) : RL K F ((putK kvs k v).map (·.2)) ((putD es k d).map (·.2)) := by
  unfold putK putD
  rw [any_keys hk k]
  by_cases c : (es.any fun e => decide (e.1 = k)) = true
  · rw [if_pos c, if_pos c]
    clear c
    induction kvs generalizing es with
    | nil =>
      cases es with
      | nil => exact .nil
      | cons q s => cases hk
    | cons p r ih =>
      cases es with
      | nil => cases hk
      | cons p' s =>
        rw [List.map_cons, List.map_cons] at hk
        injection hk with h1 h2
        rw [List.map_cons, List.map_cons] at h
        simp only [List.map_cons]
        cases h with
        | cons h t =>
          refine .cons ?_ (ih h2 t)
          rw [h1]
          by_cases e : p'.1 = k
          · rw [if_pos e, if_pos e]; exact q
          · rw [if_neg e, if_neg e]; exact h
  · rw [if_neg c, if_neg c, List.map_append, List.map_append]
    exact h.append (.cons q .nil)
end

/-! ### the statements and methods -/
structure NameOk (X : Cx) (i : Nat) (x : Str) : Prop where
  hN : X.N[i]? = some x
  hv : Vis X.env.scope x
  hd : (x == ("__debug__" : Str)) = false
  hcd : (x == ("__classdict__" : Str)) = false
structure BmOk (X : Cx) (o : Expr) (name : Str) (apos : Pos) (e : Expr) (es : List Expr) (cpos : Pos) : Prop where
  hbase : attributeBase o name X.env (eval o X.env) = eval o X.env
  hfew : ((backTo cpos (starEach (e :: es) X.env)).all (fun x => !x.1) && (backToKw cpos (keywordEach [] X.env)).all (fun x => x.1.isSome)
      && decide ((e :: es).length + ([] : List Keyword).length + (if ([] : List Keyword).isEmpty then 0 else 1) < 30)) = true
  hline : (apos.endLine == cpos.line) = true
  hs : starEach (e :: es) X.env = (false, eval e X.env) :: starEach es X.env
  hplain : (backTo cpos (starEach es X.env)).any (·.1) = false
structure Bm0Ok (X : Cx) (o : Expr) (name : Str) (apos cpos : Pos) : Prop where
  hbase : attributeBase o name X.env (eval o X.env) = eval o X.env
  hline : (apos.endLine == cpos.line) = true
section
variable {X : Cx} {e e2 : Expr} {pin n i : Nat} {m mr : Mode} {f f2 : FM} {fe : FE} {x : Str} {pos p apos cpos : Pos} {es : List Expr}
/-- x.append(e) -/
theorem dm_append (i n : Nat) (he : DM X B e pin (.own n) f) (hN : NameOk X i x := by exact ⟨rfl, by first | exact Or.inl rfl | exact Or.inr (Or.inl rfl) | exact Or.inr (Or.inr rfl), by decide, by decide⟩) (hb : BmOk X (.Name x p) "append" apos e [] cpos := by exact ⟨rfl, rfl, rfl, rfl, rfl⟩) :
    DM X B (.Call (.Attribute (.Name x p) "append" apos) [e] [] cpos) pin m (fun ρ R => ownLst ρ i n (fun _ => True) ∧ f ρ fun d ρ' => ownLst ρ' i n fun ds => ds.length < sizeLine ∧ R .non (ρ'.set i (some (n + 1, .lst (ds ++ [d]))))) :=
  PE.imp (pe_bm PySem.F.plainAttrs_list PySem.F.slot_list_append PySem.F.type_list_append mt_append (pe_var hN.1 hN.2 hN.3 hN.4) (pa_cons he pa_nil hb.4) hb.1 hb.2 hb.3 hb.4 hb.5) fun σ H Q ⟨Pn, Z0, F0, F, ρ, fp, R, hpl, S, ⟨h0, hf⟩, k⟩ => by
    obtain ⟨ds0, e0, _⟩ := h0.inv
    obtain ⟨a, vs, g, h1, h2, h3, h4, h5, h6, kk⟩ := S.lst e0
    refine ⟨_, h1, .inl ⟨rfl, _, SqL.of h2⟩, Pn, Z0, F0, F, ρ, fp, _, hpl, S, hf, fun F' H' ρ' fp' v d f' S' hv ap hR => ?_⟩
    obtain ⟨ds, e1, hz, hR⟩ := hR.inv
    obtain ⟨a', vs', g', h1', h2', h3', h4', h5', h6', kk'⟩ := S'.lst e1
    rw [h1] at h1'
    cases h1'
    obtain ⟨fp2, S2⟩ := kk' (vs' ++ [v]) (ds ++ [d]) (g' ++ f') f' ap (fun b hb => List.mem_append.mp hb) (nd_of h5' ap.2 fun b hb z => (ap.1 b hb).2.2.2 (h6' b (List.mem_cons_of_mem _ z))) (h3'.append (OwnL.one hv))
    exact ⟨a, vs', v, rfl, rfl, h2', by rw [h3'.len]; exact hz, k F' _ _ fp2 .non .non [] S2 (Val.atom rfl fun _ => .non) .nil hR⟩
/-- x[j] = e -/
theorem ds_setL (i n : Nat) (he : DM X B e pin (.own n) f) (hj : DE X B e2 (.own 0) fe) (hN : NameOk X i x := by exact ⟨rfl, by first | exact Or.inl rfl | exact Or.inr (Or.inl rfl) | exact Or.inr (Or.inr rfl), by decide, by decide⟩)
    (ha : ∀ v, assign (.Subscript (.Name x p) e2 apos) X.env v = (do
      let ov ← holding [v] (eval (.Name x p) X.env)
      let iv ← holding [v, ov] (eval e2 X.env)
      standAt apos
      holding [v, ov, iv] (setItem ov iv v)
      release [v, ov, iv] []) := by intro _; rfl)
    (hs : swapsWithSole [.Subscript (.Name x p) e2 apos] e pos.line X.env = pure false := by rfl) (hw : swappedStores [.Subscript (.Name x p) e2 apos] e X.env = pure none := by rfl)
    (h1 : (assignEach [.Subscript (.Name x p) e2 apos] X.env).map (·.2) = [assign (.Subscript (.Name x p) e2 apos) X.env] := by rfl) :
    DS X B (.Assign [.Subscript (.Name x p) e2 apos] e pos) pin mr (fun E ρ => f ρ fun d ρ' => ownLst ρ' i n (fun _ => True) ∧ fe ρ' fun j => match j with
      | .int j => ownLst ρ' i n fun ds => ∃ k, ixN ds.length j = some k ∧ E.nx (ρ'.set i (some (n + 1, .lst (ds.set k d))))
      | _ => False) :=
  PS.imp (ps_asg he (pg_sub (pe_var hN.1 hN.2 hN.3 hN.4) hj set_list ha) hs hw h1) fun Dn σ H ⟨Pn, Z0, F0, F, ρ, fp, E, hpl, S, hf, L⟩ => by
    refine ⟨Pn, Z0, F0, F, ρ, fp, _, hpl, S, hf, fun F' H' ρ' fp' v d f' S' hv ap ⟨h0, hR⟩ => ?_⟩
    obtain ⟨ds0, e0, _⟩ := h0.inv
    obtain ⟨a, vs, g, h1, h2, h3, h4, h5, h6, kk⟩ := S'.lst e0
    refine ⟨_, h1, F', ρ', fp', _, S'.base, hR, fun F2 H2 w j fj s2 hw oj nj hj => ?_⟩
    have S2 := S'.step s2 fun a h => (by cases h)
    cases j <;> try exact hj.elim
    rename_i j
    obtain ⟨rfl, rfl⟩ := hw.int
    obtain ⟨ds, e1, kx, hx, hR⟩ := ownLst.inv hj
    obtain ⟨a', vs', g', h1', h2', h3', h4', h5', h6', kk'⟩ := S2.lst e1
    rw [h1] at h1'
    cases h1'
    have ap2 : Apart B Z0 F2 fp' f' := ⟨fun b hb => by
      obtain ⟨q1, q2, q3, q4⟩ := ap.1 b hb
      obtain ⟨o, eo, mu⟩ := hv.there b hb
      exact ⟨s2.out eo mu q2 q1 (fun z => (by cases z)), q2, q3, q4⟩, ap.2⟩
    have hv2 : Own X.K F2 H2 n v d f' := hv.step s2 fun b hb => (ap.1 b hb).2.1
    obtain ⟨g2, o2, sub, nd⟩ := OwnL.set hv2 kx h3' (nd_of h5' ap.2 fun b hb z => (ap.1 b hb).2.2.2 (h6' b (List.mem_cons_of_mem _ z)))
    obtain ⟨fp2, S3⟩ := kk' (vs'.set kx v) (ds.set kx d) g2 f' ap2 sub nd o2
    exact ⟨a, vs', j, kx, rfl, rfl, h2', by rw [h3'.len]; exact hx, L.nx F2 _ _ _ fp2 S3 hR⟩
/-- the key that a value is -/
def keyOf : D → Option Key
  | .int i => some (.inl i)
  | .str s => some (.inr s)
  | _ => none
def keysOf : List D → Option (List Key)
  | [] => some []
  | d :: ds => match keyOf d, keysOf ds with
    | some k, some ks => some (k :: ks)
    | _, _ => none
def keyT : D → Option (List Key)
  | .tup ds => keysOf ds
  | _ => none
theorem keyOf_R {K : PySem.W.Frag} {G : Hp} {d : D} {v : V} {k : Key} (h : keyOf d = some k) (r : R K G v d) : v = kV k := by
  cases d <;> try (cases h; done)
  · cases h; cases r; rfl
  · cases h; cases r; rfl
theorem keysOf_R {K : PySem.W.Frag} {G : Hp} : ∀ {ds : List D} {vs : List V} {ks : List Key}, keysOf ds = some ks → RL K G vs ds → vs = ks.map kV
  | [], _, ks, h, .nil => by cases h; rfl
  | d :: ds, _, ks, h, .cons r t => by
    unfold keysOf at h
    split at h
    · rename_i k' ks' h1 h2
      cases h
      rw [List.map_cons, keyOf_R h1 r, keysOf_R h2 t]
    · cases h
/-- d[k] = e, the keys ints or texts, what is kept may be read -/
theorem ds_putK (i : Nat) (hu : X.A.units + 1 < cLine) (he : DM X B e pin (.own 0) f) (hj : DE X B e2 (.own 0) fe) (hN : NameOk X i x := by exact ⟨rfl, by first | exact Or.inl rfl | exact Or.inr (Or.inl rfl) | exact Or.inr (Or.inr rfl), by decide, by decide⟩) (hs : swapsWith e (some (.Subscript (.Name x p) e2 apos)) pos.line X.env = pure false := by rfl) :
    DS X B (.Assign [.Subscript (.Name x p) e2 apos] e pos) pin mr (fun E ρ => f ρ fun d ρ' => ownDK ρ' i 0 (fun _ => True) ∧ fe ρ' fun j => ∃ k, keyOf j = some k ∧ ownDK ρ' i 0 fun ds => ds.length < sizeLine ∧ E.nx (ρ'.set i (some (1, .dK (putD ds k d))))) :=
  PS.imp (ps_dput hu (pe_var hN.1 hN.2 hN.3 hN.4) hj he hs) fun Dn σ H ⟨Pn, Z0, F0, F, ρ, fp, E, hpl, S, hf, L⟩ => by
    refine ⟨Pn, Z0, F0, F, ρ, fp, _, hpl, S, hf, fun F' H' ρ' fp' v d f' S' hv ap ⟨h0, hR⟩ => ?_⟩
    obtain ⟨ds0, e0, _⟩ := h0.inv
    obtain ⟨a, vs, g, h1, h2, hk, h3, h4, h5, h6, kk⟩ := S'.dK e0
    refine ⟨_, h1, F', ρ', fp', _, S'.base, hR, fun F2 H2 w j fj s2 hw oj nj hj => ?_⟩
    have S2 := S'.step s2 fun a h => (by cases h)
    obtain ⟨k, ek, hj⟩ := hj
    obtain ⟨ds, e1, hz, hR⟩ := hj.inv
    obtain ⟨a', vs', g', h1', h2', hk', h3', h4', h5', h6', kk'⟩ := S2.dK e1
    rw [h1] at h1'
    cases h1'
    obtain ⟨hv0, rfl⟩ := (show Own X.K F' H' 0 v d f' from hv)
    obtain ⟨fp2, S3⟩ := kk' (putK vs' k v) (putD ds k d) [] [] .nil (fun b h => (by cases h)) List.nodup_nil (put_keys hk') (OwnL.zero (put_rl (R.mono s2.fs hv0) hk' h3'.toRL0))
    have hlen : vs'.length = ds.length := by have := congrArg List.length hk'; simpa using this
    have ew : w = kV k := keyOf_R ek (hw.1)
    exact ⟨a, _, rfl, .inl ⟨vs', k, h2', ew, by rw [hlen]; exact hz, rfl⟩, L.nx F2 _ _ _ fp2 S3 hR⟩
/-- .. the keys tuples -/
theorem ds_putT (i : Nat) (hu : X.A.units + 1 < cLine) (he : DM X B e pin (.own 0) f) (hj : DE X B e2 (.own 0) fe) (hN : NameOk X i x := by exact ⟨rfl, by first | exact Or.inl rfl | exact Or.inr (Or.inl rfl) | exact Or.inr (Or.inr rfl), by decide, by decide⟩) (hs : swapsWith e (some (.Subscript (.Name x p) e2 apos)) pos.line X.env = pure false := by rfl) :
    DS X B (.Assign [.Subscript (.Name x p) e2 apos] e pos) pin mr (fun E ρ => f ρ fun d ρ' => ownDT ρ' i 0 (fun _ => True) ∧ fe ρ' fun j => ∃ k, keyT j = some k ∧ ownDT ρ' i 0 fun ds => ds.length < sizeLine ∧ E.nx (ρ'.set i (some (1, .dT (putD ds k d))))) :=
  PS.imp (ps_dput hu (pe_var hN.1 hN.2 hN.3 hN.4) hj he hs) fun Dn σ H ⟨Pn, Z0, F0, F, ρ, fp, E, hpl, S, hf, L⟩ => by
    refine ⟨Pn, Z0, F0, F, ρ, fp, _, hpl, S, hf, fun F' H' ρ' fp' v d f' S' hv ap ⟨h0, hR⟩ => ?_⟩
    obtain ⟨ds0, e0, _⟩ := h0.inv
    obtain ⟨a, vs, g, h1, h2, hk, h3, h4, h5, h6, kk⟩ := S'.dT e0
    refine ⟨_, h1, F', ρ', fp', _, S'.base, hR, fun F2 H2 w j fj s2 hw oj nj hj => ?_⟩
    have S2 := S'.step s2 fun a h => (by cases h)
    obtain ⟨k, ek, hj⟩ := hj
    obtain ⟨ds, e1, hz, hR⟩ := hj.inv
    obtain ⟨a', vs', g', h1', h2', hk', h3', h4', h5', h6', kk'⟩ := S2.dT e1
    rw [h1] at h1'
    cases h1'
    obtain ⟨hv0, rfl⟩ := (show Own X.K F' H' 0 v d f' from hv)
    obtain ⟨fp2, S3⟩ := kk' (putK vs' k v) (putD ds k d) [] [] .nil (fun b h => (by cases h)) List.nodup_nil (put_keys hk') (OwnL.zero (put_rl (R.mono s2.fs hv0) hk' h3'.toRL0))
    have hlen : vs'.length = ds.length := by have := congrArg List.length hk'; simpa using this
    cases j <;> try (cases ek; done)
    rename_i js
    obtain ⟨ta, ws, rfl, ht, hrl⟩ := (hw.1 : R X.K F2 w (.tup js)).tupI
    have ew : ws = k.map kV := keysOf_R ek hrl
    subst ew
    exact ⟨a, _, rfl, .inr ⟨vs', k, ta, h2', rfl, tup_of S2.wf (S2.wf.sub _ _ ht), by rw [hlen]; exact hz, rfl⟩, L.nx F2 _ _ _ fp2 S3 hR⟩
end
end GK

namespace GK
open PySem PySem.Spec PyProof.Rows L2

/-! ### a method that changes its own object; __init__ -/
/-- wp of the object, of the arguments and of what is wanted of the value and of the object behind it -/
abbrev FSpecM := D → List D → (D → D → Prop) → Prop
/-- what stands, but for what the object owns, is kept -/
structure StepM (B f : List Addr) (F H F' H' : Hp) : Prop where
  same : ∀ a o, a ∉ B → a ∉ f → H a = some o → H' a = some o
  fs : Same F F'
  fresh : ∀ a u, F' a = some u → F a = some u ∨ H a = none ∨ isTup u ∨ a ∈ f
  wf : WF B F' H'
def spM (K : PySem.W.Frag) (n : Nat) (m : Mode) (W : FSpecM) : Sp := fun vs H Q _ => ∃ B F v ws s ds f R, vs = v :: ws ∧ WF B F H ∧ Own K F H n v s f ∧ Fp B F f ∧ RL K F ws ds ∧ W s ds R ∧
  ∀ F' H' r d fr s' f', StepM B f F H F' H' → Own K F' H' n v s' f' → Val K m B F' H' r d fr → (∀ a ∈ f' ++ fr, (a ∈ f ∨ H a = none) ∧ F' a = none ∧ a ∉ B) → (f' ++ fr).Nodup → R d s' → Q r H'
abbrev DEnds.meth (n : Nat) (R : D → D → Prop) : DEnds := { nx := fun ρ => ∃ s, slot ρ 0 = some (n, s) ∧ R .non s, rt := fun d ρ => ∃ s, slot ρ 0 = some (n, s) ∧ R d s }
section
variable {P : Program} {w : World} {K : PySem.W.Frag} {mg : Str → Option Value} {base : Heap}
theorem StOk.stepM {B : List Addr} {Pn : List V} {F H : Hp} {σ : L2.St} {ρ : Env} {fp : List Addr} {F1 H1 : Hp} {f : List Addr} (T : StOk K B Pn (prot B f H1) F1 F H σ ρ fp) : StepM B f F1 H1 F H :=
  ⟨fun a o hb hf e => T.z a o (by rw [prot_out hf hb]; exact e), T.f, fun a u e => by
    rcases T.fr a u e with z | z | z
    · exact .inl z
    · by_cases hb : a ∈ B
      · have := T.wf.outB hb
        rw [this] at e; cases e
      · by_cases hf : a ∈ f
        · exact .inr (.inr (.inr hf))
        · rw [prot_out hf hb] at z; exact .inr (.inl z)
    · exact .inr (.inr (.inl z)), T.wf⟩
theorem Fun_okM {x qual : Str} {st : Stmt} {fa : Addr} {fd : FuncData} {N ps : List Str} {k n : Nat} {m : Mode} {W : FSpecM} (F : Fun K x qual st fa fd) (S : FnScope N ps (defScope st)) (len : ∀ s ds R, W s ds R → ds.length + 1 = ps.length)
    (hbody : ∀ (B : List Addr) (cdv : Value) (A : Around) (outer : List PySem.Env) (s : Shared) (H : Hp) (E : XK), Room k (A.deeper (envOfC qual (defScope st) s.heap.objs.size fa cdv)) →
      ∃ g, DSs (cxOf CX0 P w K mg base N qual (defScope st) fa cdv A outer s H E).nox B (defBody st) 1 m g ∧ ∀ s ds R, W s ds R → g (DEnds.meth n R) (some (n, s) :: (envOf ds ++ List.replicate (N.length - (ds.length + 1)) none))) : FnOk P w K mg base CX0 (k + 1) fa fd ps (spM K n m W) := by
  refine F.ok S (fun vs H Q E ⟨B, F, v, ws, s, ds, f, R, e, w, o, a, r, hW, k⟩ => by rw [e, List.length_cons, r.length]; exact len s ds R hW) fun cdv A outer sh H vs Q E hr ⟨B, F, v, ws, s, ds, f, R, ev, w, ho, ⟨ha, hn⟩, r, hW, k⟩ => ?_
  obtain ⟨g, hg, hq⟩ := hbody B cdv A outer sh H E hr
  subst ev
  refine ⟨_, hg, [v], prot B f H, F, F, _, f, DEnds.meth n R, rfl, ⟨w, ?_, hn, fun a h => ⟨(ha a h).1, (ha a h).2, prot_in (.inl h)⟩, prot_same, fun a h => prot_in (.inr h), fun _ _ h => h, fun a u h => .inl h, fun i u e => ?_⟩, hq s ds R hW, ?_⟩
  · rw [start_eq, List.length_cons, r.length]
    exact ⟨f, [], (List.append_nil f).symm, ho, ownE_start _ r⟩
  · cases i with
    | zero =>
      have e' : v = u := Option.some.inj e
      subst e'; rfl
    | succ i => simp at e
  have fin : ∀ {F' H' : Hp} {σ' : L2.St} {ρ' : Env} {fp' : List Addr} {s' : D} {r : V} {d : D} {fr : List Addr}, StOk K B [v] (prot B f H) F F' H' σ' ρ' fp' → slot ρ' 0 = some (n, s') → Val K m B F' H' r d fr → Apart B (prot B f H) F' fp' fr → R d s' → Q r H' := fun {F' H' σ' ρ' fp' s' r d fr} T e hv ap hR => by
    obtain ⟨v', f', fp2, e1, e2, T2, ap2, sub⟩ := T.take e
    have e3 := T.pn 0 v rfl
    rw [e3] at e1
    cases e1
    refine k F' H' r d fr s' f' T.stepM e2 hv (fun a ha => ?_) ?_ hR
    · have key : F' a = none ∧ a ∉ B ∧ prot B f H a = none := by
        rcases List.mem_append.mp ha with z | z
        · obtain ⟨h1, h2, h3, _⟩ := ap2.1 a z; exact ⟨h1, h2, h3⟩
        · obtain ⟨h1, h2, h3, _⟩ := ap.1 a z; exact ⟨h1, h2, h3⟩
      refine ⟨?_, key.1, key.2.1⟩
      by_cases hf : a ∈ f
      · exact .inl hf
      · right
        have := key.2.2
        rw [prot_out hf key.2.1] at this; exact this
    · refine List.nodup_append.mpr ⟨ap2.2, ap.2, fun a ha b hb e => ?_⟩
      subst e
      exact (ap.1 a hb).2.2.2 (sub a (List.mem_append_right _ ha))
  exact ⟨fun F' H' σ' ρ' fp' T ⟨s', e, h⟩ => fin T e (Val.atom (d := .non) (v := .non) rfl fun _ => .non) .nil h, fun F' H' σ' ρ' fp' v d f T hv ap ⟨s', e, h⟩ => fin T e hv ap h,
    fun _ _ _ _ _ _ h => h.elim, fun _ _ _ _ _ _ h => h.elim⟩
end
/-- self.f = e, in its own method -/
def putF' (f : Str) (d : D) : List (Str × D) → List (Str × D)
  | [] => [(f, d)]
  | (g, x) :: r => if g = f then (g, d) :: r else (g, x) :: putF' f d r
theorem putF_keys {f : Str} {v : V} {d : D} : ∀ {fs : List (Str × V)} {es : List (Str × D)}, fs.map (·.1) = es.map (·.1) → (putF f v fs).map (·.1) = (putF' f d es).map (·.1)
  | [], [], _ => rfl
  | (g, x) :: r, (g', y) :: s, h => by
    rw [List.map_cons, List.map_cons] at h
    injection h with h1 h2
    have h1 : g = g' := h1
    subst h1
    unfold putF putF'
    by_cases e : g = f
    · rw [if_pos e, if_pos e, List.map_cons, List.map_cons, h2]
    · rw [if_neg e, if_neg e, List.map_cons, List.map_cons, putF_keys h2]
  | [], _ :: _, h => by cases h
  | _ :: _, [], h => by cases h
theorem putF_own {P : V → D → List Addr → Prop} {f : Str} {v : V} {d : D} {q : List Addr} (h : P v d q) : ∀ {fs : List (Str × V)} {es : List (Str × D)} {g : List Addr}, fs.map (·.1) = es.map (·.1) → OwnL P (fs.map (·.2)) (es.map (·.2)) g → (g ++ q).Nodup →
    ∃ g', OwnL P ((putF f v fs).map (·.2)) ((putF' f d es).map (·.2)) g' ∧ (∀ a ∈ g', a ∈ g ∨ a ∈ q) ∧ g'.Nodup
  | [], [], g, _, t, nd => by
    have e : g = [] := t
    subst e
    exact ⟨q, OwnL.one h, fun a ha => .inr ha, (List.nodup_append.mp nd).2.1⟩
  | (k, x) :: r, (k', y) :: s, g, hk, ⟨f1, f2, e, h1, t⟩, nd => by
    rw [List.map_cons, List.map_cons] at hk
    injection hk with k1 k2
    have k1 : k = k' := k1
    subst k1
    subst e
    rw [List.append_assoc] at nd
    obtain ⟨n1, n2, n3⟩ := List.nodup_append.mp nd
    unfold putF putF'
    by_cases e : k = f
    · rw [if_pos e, if_pos e]
      refine ⟨q ++ f2, ⟨q, f2, rfl, h, t⟩, fun a ha => ?_, nd_comm n2⟩
      rcases List.mem_append.mp ha with z | z
      · exact .inr z
      · exact .inl (List.mem_append_right _ z)
    · rw [if_neg e, if_neg e]
      obtain ⟨g', o, sub, nd'⟩ := putF_own h k2 t n2
      refine ⟨f1 ++ g', ⟨f1, g', rfl, h1, o⟩, fun a ha => ?_, List.nodup_append.mpr ⟨n1, nd', fun a ha b hb e => ?_⟩⟩
      · rcases List.mem_append.mp ha with z | z
        · exact .inl (List.mem_append_left _ z)
        · rcases sub a z with z | z
          · exact .inl (List.mem_append_right _ z)
          · exact .inr z
      · subst e
        rcases sub a hb with z | z
        · exact n3 a ha a (List.mem_append_left _ z) rfl
        · exact n3 a ha a (List.mem_append_right _ z) rfl
  | [], _ :: _, _, h, _, _ => by cases h
  | _ :: _, [], _, h, _, _ => by cases h
section
variable {X : Cx} {e : Expr} {pin : Nat} {mr : Mode} {f : FM} {x fld : Str} {pos p pos' : Pos} {C : Addr}
theorem ds_fld (i n : Nat) (c : Cls X.K C) (nf : NoAttr X.K C fld) (he : DM X B e pin (.own n) f) (hN : NameOk X i x := by exact ⟨rfl, by first | exact Or.inl rfl | exact Or.inr (Or.inl rfl) | exact Or.inr (Or.inr rfl), by decide, by decide⟩)
    (hs : swapsWith e (some (.Attribute (.Name x p) fld pos')) pos.line X.env = pure false := by rfl) :
    DS X B (.Assign [.Attribute (.Name x p) fld pos'] e pos) pin mr (fun E ρ => f ρ fun d ρ' => ownObj C ρ' i n fun es => es.length < 1000 ∧ E.nx (ρ'.set i (some (n + 1, .obj C (putF' fld d es))))) :=
  PS.imp (ps_fld (pe_var hN.1 hN.2 hN.3 hN.4) he hs) fun Dn σ H ⟨Pn, Z0, F0, F, ρ, fp, E, hpl, S, hf, L⟩ => by
    refine ⟨Pn, Z0, F0, F, ρ, fp, _, hpl, S, hf, fun F' H' ρ' fp' v d f' S' hv ap hR => ?_⟩
    obtain ⟨es, e1, hz, hR⟩ := hR.inv
    obtain ⟨a, dx, fs, g, h1, h2, hk, h3, h4, h5, h6, kk⟩ := S'.obj e1
    obtain ⟨g', o, sub, nd⟩ := putF_own (f := fld) (show Own X.K F' H' n v d f' from hv) hk h3 (nd_of h5 ap.2 fun b hb z => (ap.1 b hb).2.2.2 (h6 b (List.mem_cons_of_mem _ z)))
    obtain ⟨fp2, S2⟩ := kk (putF fld v fs) (putF' fld d es) g' f' ap sub nd (putF_keys hk) o
    have hlen : fs.length = es.length := by have := congrArg List.length hk; simpa using this
    exact ⟨_, h1, a, C, dx, fs, rfl, h2, c, nf, by rw [hlen]; exact hz, L.nx F' _ _ _ fp2 S2 hR⟩
end
/-! ### C(..) -/
section
variable {X : Cx} {k : Nat} {fa C : Addr} {fd : FuncData} {ps : List Str} {ds : List Value} {dvs : List V} {x : Str} {p pos : Pos} {e : Expr} {es : List Expr} {ms : List Mode} {fs : FA} {W : FSpecM} {dd : List D} {n : Nat} {m : Mode}
theorem make_ok {K : PySem.W.Frag} {B A : List Addr} {F H : Hp} {vs : List V} {xs : List D} {R : D → Prop} {Q : VK} {x dx : Addr} (w : WF B F H) (r : RL K F vs xs) (hx : H x = none) (hdx : H dx = none) (ne : dx ≠ x)
    (h : W (.obj C []) xs fun d s => d = .non ∧ R s) (k : Post K B A F H (.own (n + 1)) R Q) : spM K (n + 1) m W (.ref x :: vs) (upd (upd H dx (.own x)) x (.ins C dx [])) (fun v H2 => v = .non ∧ Q (.ref x) H2) fun _ _ _ => False := by
  have w1 := w.laid (o := .own x) hdx rfl
  have hx1 : upd H dx (.own x) x = none := by rw [upd_ne (Ne.symm ne)]; exact hx
  have w2 := w1.laid (o := .ins C dx []) hx1 rfl
  have old : ∀ a o, H a = some o → upd (upd H dx (.own x)) x (.ins C dx []) a = some o := fun a o e => same_upd hx1 a o (same_upd hdx a o e)
  refine ⟨B, F, .ref x, vs, .obj C [], xs, [x], _, rfl, w2, ⟨x, dx, [], [], rfl, upd_same, rfl, rfl, rfl⟩, ⟨fun a ha => ?_, by simp⟩, r, h, fun F' H' r d fr s' f' s ho hv hf hn ⟨hd, hR⟩ => ?_⟩
  · have e : a = x := by simpa using ha
    subst e
    exact ⟨F_none w hx, w.notB hx⟩
  · subst hd
    obtain ⟨rfl, rfl⟩ := hv.non
    refine ⟨rfl, k F' H' (.ref x) s' f' ⟨fun a o hb e => s.same a o hb (fun hm => ?_) (old a o e), s.fs, fun a u e => ?_, s.wf⟩ ho (fun a ha => ?_) (by simpa using hn) hR⟩
    · have e' : a = x := by simpa using hm
      subst e'
      rw [hx] at e; cases e
    · rcases s.fresh a u e with z | z | z | z
      · exact .inl z
      · right; left
        cases q : H a with
        | none => rfl
        | some o => rw [old a o q] at z; cases z
      · exact .inr (.inr (.inl z))
      · have e' : a = x := by simpa using z
        subst e'
        exact .inr (.inl hx)
    · obtain ⟨h1, h2⟩ := hf a (by simpa using ha)
      refine ⟨?_, h2⟩
      rcases h1 with z | z
      · have e' : a = x := by simpa using z
        subst e'
        exact .inr hx
      · right
        cases q : H a with
        | none => rfl
        | some o => rw [old a o q] at z; cases z
theorem de_make (M : Mk X.K C fa) (F : FnOk X.prog X.w X.K X.mg X.base CX0 k fa fd ps (spM X.K (n + 1) m W)) (hr : Room (k + 1) X.A) (hg : Gl X x) (hm : X.mg x = some (.ref C)) (hb : Binds X.K fd ps ds) (hd : Vals dvs ds) (hdd : Dflt X.K dvs dd)
    (ha : DA X B (e :: es) ms fs) (hms : ∀ m ∈ ms, m = .own 0 := by simp) (hdb : (x == ("__debug__" : Str)) = false := by decide) (he : starEach (e :: es) X.env = (false, eval e X.env) :: starEach es X.env := by rfl) (hpl : (backTo pos (starEach es X.env)).any (·.1) = false := by rfl) :
    DE X B (.Call (.Name x p) (e :: es) [] pos) (.own (n + 1)) (fArgs (fun xs R => W (.obj C []) (xs ++ dd) fun d s => d = .non ∧ R s) fs) :=
  PE.imp (pe_make M F hr hg hm hb hd pass0 ha hdb he hpl) fun σ H Q ⟨F, ρ, fp, R, S, hf, k⟩ => ⟨F, ρ, fp, _, S, hf, fun F1 H1 vs xs fp1 s1 hv o1 n1 hW x dx hx hdx ne =>
    make_ok s1.wf ((hv.rl0 hms).append (hdd F1)) hx hdx ne hW (k.after s1 (A1 := fp1) fun a ha => (o1 a ha).1)⟩
theorem de_make0 (M : Mk X.K C fa) (F : FnOk X.prog X.w X.K X.mg X.base CX0 k fa fd ps (spM X.K (n + 1) m W)) (hr : Room (k + 1) X.A) (hg : Gl X x) (hm : X.mg x = some (.ref C)) (hb : Binds X.K fd ps ds) (hd : Vals dvs ds) (hdd : Dflt X.K dvs dd)
    (hdb : (x == ("__debug__" : Str)) = false := by decide) : DE X B (.Call (.Name x p) [] [] pos) (.own (n + 1)) (fun _ R => W (.obj C []) dd fun d s => d = .non ∧ R s) :=
  PE.imp (pe_make0 M F hr hg hm hb hd pass0 hdb) fun σ H Q ⟨F, ρ, fp, R, S, hf, k⟩ x dx hx hdx ne => make_ok S.wf (hdd F) hx hdx ne hf k
/-- o.m() -/
theorem de_meth0 {mt : Str} {o : Expr} {fo : FE} {W : BSpec} {apos : Pos} {pl : Sem Bool} (ho : DE X B o (.own 0) fo) (c : Cls X.K C) (hm : Meth X.K C mt fa) (F : FnOk X.prog X.w X.K X.mg X.base CX0 k fa fd ps (spD X.K m W)) (hr : Room k X.A) (hb : Binds X.K fd ps ds) (hd : Vals dvs ds) (hdd : Dflt X.K dvs dd)
    (ht : eval (.Call (.Attribute o mt apos) [] [] pos) X.env = (do
      let ov ← eval o X.env
      standAt apos.atName
      let (f, first) ← holding [ov] (getMethod ov mt pl)
      callWith pos f first (backTo pos (starEach [] X.env)) (backToKw pos (keywordEach [] X.env))) := by rfl) :
    DE X B (.Call (.Attribute o mt apos) [] [] pos) m (fun ρ R => fo ρ fun x => isObjD C mt x ∧ W B (x :: dd) R) :=
  PE.imp (pe_meth0 ho c hm F hr hb hd pass0 ht) fun σ H Q ⟨F, ρ, fp, R, S, hf, k⟩ => by
    refine ⟨F, ρ, fp, _, S, hf, fun F1 H1 v x f1 s1 hv o1 n1 ⟨hx, hg⟩ => ?_⟩
    obtain ⟨es', rfl, hl'⟩ := hx.inv
    obtain ⟨ef, a, dx, gs, ev, ea, hk, it⟩ := hv.obj rfl s1.wf
    subst ev
    refine ⟨a, dx, gs, rfl, ea, lookup_none hk hl', ?_⟩
    have hx1 : GK.R X.K F1 (.ref a) (.obj C es') := hv.1
    exact call_all (vs := .ref a :: ([] ++ dvs)) s1.wf (.cons hx1 (hdd F1)) hg (k.after s1 (A1 := []) fun a ha => (by cases ha))
end
end GK

namespace GK
open PySem PySem.Spec PyProof.Rows L2

/-! ### tests -/
def bOf (R : Bool → Prop) : D → Prop
  | .bl b => R b
  | _ => False
abbrev fBool (f : FE) : FT := fun ρ R => f ρ (bOf R)
section
variable {K : PySem.W.Frag} {m : Mode} {σ : L2.St} {H : Hp} {f : FE}
theorem tD_bool {Q : Bool → Hp → Prop} (h : tDT K B (fBool f) σ H Q) : tD K B m f σ H fun x H' => ∃ k, x = .bl k ∧ Q k H' := by
  obtain ⟨F, ρ, fp, R, S, hf, k⟩ := h
  refine ⟨F, ρ, fp, _, S, hf, fun F' H' v d f' s hv ho hn hR => ?_⟩
  cases d <;> try exact (show False from hR).elim
  obtain ⟨rfl, _⟩ := hv.bl
  exact ⟨_, rfl, k F' H' _ s hR⟩
end
section
variable {X : Cx} {a b e : Expr} {rest : List Expr} {op : CmpOp} {pos : Pos} {m m1 m2 : Mode} {r : R2} {g : D → D → (D → Prop) → Prop} {f f' : FE} {ft ft' : FT}
theorem dt_cmp (m : Mode) (ho : OpR X (compareOp op) r) (hr : Op2 X.K r m1 m2 m g) (ha : DE X B a m1 f) (hb : DE X B b m2 f') (hm : behindInMarks op b = false) : DT X B (.Compare a [op] [b] pos) (fBool (fBin g f f')) :=
  PT.imp (pt_cmpR ho ha hb hm) fun _ _ _ q => tD_bin (m := m) (g := g) hr (tD_bool q)
/-- an expression whose value is True or False -/
theorem dt_val (h : DE X B e m f) (he : ∀ whole, isTrue e X.env whole = (do let v ← whole; standAt e.pos; holding [v] (truthy v)) := by intro _; rfl) : DT X B e (fBool f) :=
  PT.imp (pt_val h he) fun _ _ _ q => tD_bool q
theorem dt_not (h : DT X B a ft) : DT X B (.UnaryOp .Not a pos) (fun ρ R => ft ρ fun c => R (!c)) :=
  PT.imp (pt_not h) fun _ _ _ ⟨F, ρ, fp, R, S, hf, k⟩ => ⟨F, ρ, fp, _, S, hf, fun F' H' c s hR => k F' H' _ s hR⟩
abbrev DW (X : Cx) (B : List Addr) (e : Expr) (f : FT) : Prop := PW X e (tDT X.K B f)
theorem dw_and1 (h : DT X B a ft) : DW X B (.BoolOp .And [a] pos) ft := pw_and1 h
theorem dw_or1 (h : DT X B a ft) : DW X B (.BoolOp .Or [a] pos) ft := pw_or1 h
theorem dw_and (h : DT X B a ft) (h' : DW X B (.BoolOp .And (b :: rest) pos) ft') : DW X B (.BoolOp .And (a :: b :: rest) pos) (fun ρ R => ft ρ fun c => if c = true then ft' ρ R else R false) :=
  PW.imp (pw_and h h') fun σ H Q ⟨F, ρ, fp, R, S, hf, k⟩ => ⟨F, ρ, fp, _, S, hf, fun F1 H1 c s hR => by
    cases c with
    | true => exact ⟨F1, ρ, fp, R, S.step s (fun a h => by cases h), hR, fun F2 H2 d s2 hd => k F2 H2 d (s.trans s2 fun a h => by cases h) hd⟩
    | false => exact k F1 H1 _ s (by simpa using hR)⟩
theorem dw_or (h : DT X B a ft) (h' : DW X B (.BoolOp .Or (b :: rest) pos) ft') : DW X B (.BoolOp .Or (a :: b :: rest) pos) (fun ρ R => ft ρ fun c => if c = true then R true else ft' ρ R) :=
  PW.imp (pw_or h h') fun σ H Q ⟨F, ρ, fp, R, S, hf, k⟩ => ⟨F, ρ, fp, _, S, hf, fun F1 H1 c s hR => by
    cases c with
    | true => exact k F1 H1 _ s (by simpa using hR)
    | false => exact ⟨F1, ρ, fp, R, S.step s (fun a h => by cases h), hR, fun F2 H2 d s2 hd => k F2 H2 d (s.trans s2 fun a h => by cases h) hd⟩⟩
theorem dt_bool (h : DW X B e ft) : DT X B e ft := h.pt
/-- as values -/
def fAndV (f f' : FE) : FE := fun ρ R => f ρ (bOf fun c => if c = true then f' ρ R else R (.bl false))
def fOrV (f f' : FE) : FE := fun ρ R => f ρ (bOf fun c => if c = true then R (.bl true) else f' ρ R)
theorem de_one {op} (h : DE X B a m f) : DE X B (.BoolOp op [a] pos) m f := pe_one h
theorem de_and (h : DE X B a m1 f) (h' : DE X B (.BoolOp .And (b :: rest) pos) m f') : DE X B (.BoolOp .And (a :: b :: rest) pos) m (fAndV f f') :=
  PE.imp (pe_and h h') fun σ H Q ⟨F, ρ, fp, R, S, hf, k⟩ => ⟨F, ρ, fp, _, S, hf, fun F1 H1 v d f1 s hv ho hn hR => by
    cases d <;> try exact (show False from hR).elim
    obtain ⟨rfl, rfl⟩ := hv.bl
    refine ⟨_, rfl, ?_⟩
    rename_i c
    have hR : if c = true then f' ρ R else R (.bl false) := hR
    cases c with
    | true => exact ⟨F1, ρ, fp, R, S.step s (fun a h => by cases h), hR, k.after s fun a h => by cases h⟩
    | false => exact k.after s (A1 := []) (fun a h => by cases h) |>.bl s.wf (by simpa using hR)⟩
theorem de_or (h : DE X B a m1 f) (h' : DE X B (.BoolOp .Or (b :: rest) pos) m f') : DE X B (.BoolOp .Or (a :: b :: rest) pos) m (fOrV f f') :=
  PE.imp (pe_or h h') fun σ H Q ⟨F, ρ, fp, R, S, hf, k⟩ => ⟨F, ρ, fp, _, S, hf, fun F1 H1 v d f1 s hv ho hn hR => by
    cases d <;> try exact (show False from hR).elim
    obtain ⟨rfl, rfl⟩ := hv.bl
    refine ⟨_, rfl, ?_⟩
    rename_i c
    have hR : if c = true then R (.bl true) else f' ρ R := hR
    cases c with
    | true => exact k.after s (A1 := []) (fun a h => by cases h) |>.bl s.wf (by simpa using hR)
    | false => exact ⟨F1, ρ, fp, R, S.step s (fun a h => by cases h), by simpa using hR, k.after s fun a h => by cases h⟩⟩
def gNotV : D → (D → Prop) → Prop
  | .bl b, R => R (.bl (!b))
  | _, _ => False
theorem de_not (h : DE X B a m1 f) : DE X B (.UnaryOp .Not a pos) m (fUn gNotV f) :=
  PE.imp (pe_not h) fun σ H Q q => tD_un (m := m) (g := gNotV) (f := f) (r := fun x H1 Q => ∃ c, x = .bl c ∧ Q (.bl (!c)) H1) (by
    intro B F H x d fp R Q w hv hf hg k
    cases d <;> try exact (show False from hg).elim
    obtain ⟨rfl, rfl⟩ := hv.bl
    exact ⟨_, rfl, k.bl w hg⟩) q
theorem de_ifExp {c : Expr} (hc : DT X B c ft) (ha : DE X B a m f) (hb : DE X B b m f') : DE X B (.IfExp c a b pos) m (fun ρ R => ft ρ fun t => if t = true then f ρ R else f' ρ R) :=
  PE.imp (pe_ifExp hc ha hb) fun σ H Q ⟨F, ρ, fp, R, S, hf, k⟩ => ⟨F, ρ, fp, _, S, hf, fun F1 H1 c s hR => by
    cases c with
    | true => exact ⟨F1, ρ, fp, R, S.step s (fun a h => by cases h), hR, k.after s fun a h => by cases h⟩
    | false => exact ⟨F1, ρ, fp, R, S.step s (fun a h => by cases h), by simpa using hR, k.after s fun a h => by cases h⟩⟩
end

/-! ### equality -/
/-- of atoms -/
def eqA : D → D → Option Bool
  | .int i, .int j => some (decide (i = j))
  | .str i, .str j => some (decide (i = j))
  | .bl i, .bl j => some (decide (i = j))
  | .non, .non => some true
  | .non, .int _ => some false
  | .int _, .non => some false
  | .non, .str _ => some false
  | .str _, .non => some false
  | .int _, .str _ => some false
  | .str _, .int _ => some false
  | .non, .bl _ => some false
  | .bl _, .non => some false
  | _, _ => none
def gEqA (n : Bool) (x y : D) (R : D → Prop) : Prop := match eqA x y with
  | some b => R (.bl (n ^^ b))
  | none => False
theorem eqA_spec {K : PySem.W.Frag} {m1 m2 : Mode} {B f1 f2 : List Addr} {F H : Hp} {x y : V} {d e : D} {b : Bool} (h : eqA d e = some b) (hx : Val K m1 B F H x d f1) (hy : Val K m2 B F H y e f2) : scal x y = true ∧ decide (x = y) = b := by
  cases d <;> cases e <;> try (cases h; done)
  all_goals first
    | (obtain ⟨rfl, _⟩ := hx.int) | (obtain ⟨rfl, _⟩ := hx.str) | (obtain ⟨rfl, _⟩ := hx.bl) | (obtain ⟨rfl, _⟩ := hx.non)
  all_goals first
    | (obtain ⟨rfl, _⟩ := hy.int) | (obtain ⟨rfl, _⟩ := hy.str) | (obtain ⟨rfl, _⟩ := hy.bl) | (obtain ⟨rfl, _⟩ := hy.non)
  all_goals (cases h; refine ⟨rfl, ?_⟩; first | simp | rfl)
/-! of data at any depth -/
mutual
def toP : D → PyData
  | .non => .none
  | .bl b => .bool b
  | .int i => .int i
  | .str s => .str s
  | .tup xs => .tuple (toPs xs)
  | .lst xs => .list (toPs xs)
  | .raw _ => .none
  | .dK _ => .none
  | .dT _ => .none
  | .obj _ _ => .none
def toPs : List D → List PyData
  | [] => []
  | d :: ds => toP d :: toPs ds
end
mutual
/-- None, bools, ints, texts, tuples and lists of such, n deep -/
def okD : Nat → D → Bool
  | _, .non => true
  | _, .bl _ => true
  | _, .int _ => true
  | _, .str s => s.cps.all (· < 0x110000)
  | n + 1, .tup xs => okDs n xs
  | n + 1, .lst xs => okDs n xs
  | _, _ => false
def okDs : Nat → List D → Bool
  | _, [] => true
  | n, d :: ds => okD n d && okDs n ds
end
mutual
theorem okD_can : ∀ {n : Nat} {d : D}, okD n d = true → (toP d).canLay0 = true ∧ (toP d).depth ≤ n
  | n, .non, _ => by simp [toP, PyData.canLay0, PyData.depth]
  | n, .bl b, _ => by simp [toP, PyData.canLay0, PyData.depth]
  | n, .int b, _ => by simp [toP, PyData.canLay0, PyData.depth]
  | n, .str b, h => by
    refine ⟨?_, by simp [toP, PyData.depth]⟩
    have h : (b.cps.all (· < 0x110000)) = true := by simpa [okD] using h
    simp only [toP, PyData.canLay0]
    exact h
  | n + 1, .tup xs, h => by
    have h := okDs_can (n := n) (ds := xs) (by simpa [okD] using h)
    simp only [toP, PyData.canLay0, PyData.depth]
    exact ⟨h.1, by have := h.2; omega⟩
  | n + 1, .lst xs, h => by
    have h := okDs_can (n := n) (ds := xs) (by simpa [okD] using h)
    simp only [toP, PyData.canLay0, PyData.depth]
    exact ⟨h.1, by have := h.2; omega⟩
  | 0, .tup xs, h => by simp [okD] at h
  | 0, .lst xs, h => by simp [okD] at h
  | n, .raw _, h => by simp [okD] at h
  | n, .dK _, h => by simp [okD] at h
  | n, .dT _, h => by simp [okD] at h
  | n, .obj _ _, h => by simp [okD] at h
theorem okDs_can : ∀ {n : Nat} {ds : List D}, okDs n ds = true → PyData.canLayAll0 (toPs ds) = true ∧ PyData.depthAll (toPs ds) ≤ n
  | n, [], _ => by simp [toPs, PyData.canLayAll0, PyData.depthAll]
  | n, d :: ds, h => by
    rw [okDs, Bool.and_eq_true] at h
    have h1 := okD_can h.1
    have h2 := okDs_can h.2
    simp only [toPs, PyData.canLayAll0, PyData.depthAll, Bool.and_eq_true]
    exact ⟨⟨h1.1, h2.1⟩, by have := h1.2; have := h2.2; omega⟩
end
theorem okD_shaped {n : Nat} {d : D} (h : okD n d = true) (hn : n ≤ 64) : SeqAt.shaped (toP d) = true := by
  obtain ⟨h1, h2⟩ := okD_can h
  exact Bool.and_eq_true_iff.mpr ⟨h1, decide_eq_true (Nat.le_trans h2 hn)⟩
mutual
theorem R.dp {K : PySem.W.Frag} {B : List Addr} {H : Hp} : ∀ {n : Nat} {v : V} {d : D}, okD n d = true → R K (rdH B H) v d → Dp K H v (toP d)
  | n, _, .non, _, r => by cases r; simp only [toP]; exact .non
  | n, _, .bl b, _, r => by cases r; simp only [toP]; exact .bl b
  | n, _, .int i, _, r => by cases r; simp only [toP]; exact .int i
  | n, _, .str s, _, r => by cases r; simp only [toP]; exact .str s
  | n + 1, _, .tup xs, h, r => by
    obtain ⟨a, vs, rfl, ht, rl⟩ := r.tupI
    simp only [toP]
    exact .tup (sqT_rd ht) (RL.dp (n := n) (by simpa [okD] using h) rl)
  | n + 1, _, .lst xs, h, r => by
    obtain ⟨a, vs, rfl, ht, rl⟩ := r.lstI
    simp only [toP]
    exact .lst (sqL_rd ht) (RL.dp (n := n) (by simpa [okD] using h) rl)
  | 0, _, .tup xs, h, r => by simp [okD] at h
  | 0, _, .lst xs, h, r => by simp [okD] at h
  | n, _, .raw _, h, r => by simp [okD] at h
  | n, _, .dK _, h, r => by simp [okD] at h
  | n, _, .dT _, h, r => by simp [okD] at h
  | n, _, .obj _ _, h, r => by simp [okD] at h
theorem RL.dp {K : PySem.W.Frag} {B : List Addr} {H : Hp} : ∀ {n : Nat} {vs : List V} {ds : List D}, okDs n ds = true → RL K (rdH B H) vs ds → DpAll K H vs (toPs ds)
  | n, _, [], _, r => by cases r; simp only [toPs]; exact .nil
  | n, _, d :: ds, h, r => by
    rw [okDs, Bool.and_eq_true] at h
    cases r with
    | cons r t =>
      simp only [toPs]
      exact .cons (R.dp h.1 r) (RL.dp h.2 t)
end
def eqvD (x y : D) : Bool := PyData.eqv (toP x) (toP y)
def gEqD (n : Bool) (x y : D) (R : D → Prop) : Prop := okD 60 x = true ∧ okD 60 y = true ∧ R (.bl (n ^^ eqvD x y))
section
variable {X : Cx} {a b : Expr} {pos : Pos} {m m1 m2 : Mode} {f f' : FE}
theorem op2_eqA {K : PySem.W.Frag} : Op2 K rEq m1 m2 m (gEqA false) := by
  intro B F H x y d e fp R Q w ⟨f1, f2, ef, h1, h2⟩ _ hg k
  unfold gEqA at hg
  split at hg
  · rename_i b hb
    obtain ⟨s, ed⟩ := eqA_spec hb h1 h2
    refine ⟨s, ?_⟩
    rw [ed]
    exact k.bl w (by simpa using hg)
  · exact hg.elim
theorem op2_neA {K : PySem.W.Frag} : Op2 K rNe m1 m2 m (gEqA true) := by
  intro B F H x y d e fp R Q w ⟨f1, f2, ef, h1, h2⟩ _ hg k
  unfold gEqA at hg
  split at hg
  · rename_i b hb
    obtain ⟨s, ed⟩ := eqA_spec hb h1 h2
    refine ⟨s, ?_⟩
    rw [ed]
    exact k.bl w (by simpa using hg)
  · exact hg.elim
theorem op2_eqD {K : PySem.W.Frag} : Op2 K (rEqD K) m1 m2 m (gEqD false) := by
  intro B F H x y d e fp R Q w ⟨f1, f2, ef, h1, h2⟩ hf ⟨o1, o2, hg⟩ k
  subst ef
  have r1 := h1.rd w fun a ha => (hf.1 a (List.mem_append_left _ ha)).2
  have r2 := h2.rd w fun a ha => (hf.1 a (List.mem_append_right _ ha)).2
  refine ⟨_, _, GK.R.dp o1 r1, GK.R.dp o2 r2, okD_shaped o1 (by decide), okD_shaped o2 (by decide), k.bl w ?_⟩
  simpa [eqvD] using hg
theorem op2_neD {K : PySem.W.Frag} : Op2 K (rNeD K) m1 m2 m (gEqD true) := by
  intro B F H x y d e fp R Q w ⟨f1, f2, ef, h1, h2⟩ hf ⟨o1, o2, hg⟩ k
  subst ef
  have r1 := h1.rd w fun a ha => (hf.1 a (List.mem_append_left _ ha)).2
  have r2 := h2.rd w fun a ha => (hf.1 a (List.mem_append_right _ ha)).2
  refine ⟨_, _, GK.R.dp o1 r1, GK.R.dp o2 r2, okD_shaped o1 (by decide), okD_shaped o2 (by decide), k.bl w ?_⟩
  simpa [eqvD] using hg
theorem de_eq (ha : DE X B a m1 f) (hb : DE X B b m2 f') : DE X B (.Compare a [.Eq] [b] pos) m (fBin (gEqA false) f f') := de_cmp op_eq op2_eqA ha hb (nomark _)
theorem de_ne (ha : DE X B a m1 f) (hb : DE X B b m2 f') : DE X B (.Compare a [.NotEq] [b] pos) m (fBin (gEqA true) f f') := de_cmp op_ne op2_neA ha hb (nomark _)
theorem dt_eq (ha : DE X B a m1 f) (hb : DE X B b m2 f') : DT X B (.Compare a [.Eq] [b] pos) (fBool (fBin (gEqA false) f f')) := dt_cmp .rd op_eq op2_eqA ha hb (nomark _)
theorem dt_ne (ha : DE X B a m1 f) (hb : DE X B b m2 f') : DT X B (.Compare a [.NotEq] [b] pos) (fBool (fBin (gEqA true) f f')) := dt_cmp .rd op_ne op2_neA ha hb (nomark _)
theorem de_eqD (hu : X.A.units + 64 < cLine) (ha : DE X B a m1 f) (hb : DE X B b m2 f') : DE X B (.Compare a [.Eq] [b] pos) m (fBin (gEqD false) f f') := de_cmp (op_eqD hu) op2_eqD ha hb (nomark _)
theorem de_neD (hu : X.A.units + 64 < cLine) (ha : DE X B a m1 f) (hb : DE X B b m2 f') : DE X B (.Compare a [.NotEq] [b] pos) m (fBin (gEqD true) f f') := de_cmp (op_neD hu) op2_neD ha hb (nomark _)
theorem dt_eqD (hu : X.A.units + 64 < cLine) (ha : DE X B a m1 f) (hb : DE X B b m2 f') : DT X B (.Compare a [.Eq] [b] pos) (fBool (fBin (gEqD false) f f')) := dt_cmp .rd (op_eqD hu) op2_eqD ha hb (nomark _)
theorem dt_neD (hu : X.A.units + 64 < cLine) (ha : DE X B a m1 f) (hb : DE X B b m2 f') : DT X B (.Compare a [.NotEq] [b] pos) (fBool (fBin (gEqD true) f f')) := dt_cmp .rd (op_neD hu) op2_neD ha hb (nomark _)
theorem dt_lt (ha : DE X B a m1 f) (hb : DE X B b m2 f') : DT X B (.Compare a [.Lt] [b] pos) (fBool (fBin gLt f f')) := dt_cmp .rd op_lt op2B0 ha hb (nomark _)
theorem dt_le (ha : DE X B a m1 f) (hb : DE X B b m2 f') : DT X B (.Compare a [.LtE] [b] pos) (fBool (fBin gLe f f')) := dt_cmp .rd op_le op2B0 ha hb (nomark _)
theorem dt_gt (ha : DE X B a m1 f) (hb : DE X B b m2 f') : DT X B (.Compare a [.Gt] [b] pos) (fBool (fBin gGt f f')) := dt_cmp .rd op_gt op2B0 ha hb (nomark _)
theorem dt_ge (ha : DE X B a m1 f) (hb : DE X B b m2 f') : DT X B (.Compare a [.GtE] [b] pos) (fBool (fBin gGe f f')) := dt_cmp .rd op_ge op2B0 ha hb (nomark _)
/-- is None -/
def gIsN (n : Bool) : D → D → (D → Prop) → Prop
  | .raw _, _, _ => False
  | .non, .non, R => R (.bl (!n))
  | _, .non, R => R (.bl n)
  | _, _, _ => False
theorem isN_ref {K : PySem.W.Frag} {G : Hp} {v : V} {d : D} (r : R K G v d) (h : d ≠ .non) (h2 : ∀ w, d ≠ .raw w) : decide (v = .non) = false := by
  cases r <;> first | exact absurd rfl h | rfl | exact absurd rfl (h2 _)
theorem op2_isN {K : PySem.W.Frag} {n : Bool} : Op2 K (fun x y H Q => y = .non ∧ Q (.bl (n ^^ decide (x = .non))) H) m1 m2 m (gIsN n) := by
  intro B F H x y d e fp R Q w ⟨f1, f2, ef, h1, h2⟩ hf hg k
  subst ef
  have r1 := h1.rd w fun a ha => (hf.1 a (List.mem_append_left _ ha)).2
  cases e <;> try (cases d <;> exact (show False from hg).elim)
  obtain ⟨rfl, _⟩ := h2.non
  refine ⟨rfl, ?_⟩
  cases d
  case non =>
    obtain ⟨rfl, _⟩ := h1.non
    exact k.bl w (by cases n <;> exact hg)
  case raw => exact (show False from hg).elim
  all_goals (rw [isN_ref r1 (by intro z; cases z) (by intro w z; cases z)]; exact k.bl w (by cases n <;> exact hg))
theorem op_isN' : OpR X (compareOp .Is) (fun x y H Q => y = .non ∧ Q (.bl (false ^^ decide (x = .non))) H) := fun pins s σ H x y v u Q I rx ry ⟨h1, h2⟩ => op_isN pins s σ H x y v u Q I rx ry ⟨h1, by simpa using h2⟩
theorem op_notN' : OpR X (compareOp .IsNot) (fun x y H Q => y = .non ∧ Q (.bl (true ^^ decide (x = .non))) H) := fun pins s σ H x y v u Q I rx ry ⟨h1, h2⟩ => op_notN pins s σ H x y v u Q I rx ry ⟨h1, by simpa using h2⟩
theorem de_is (ha : DE X B a m1 f) (hb : DE X B b m2 f') : DE X B (.Compare a [.Is] [b] pos) m (fBin (gIsN false) f f') := de_cmp op_isN' op2_isN ha hb (nomark _)
theorem de_isnot (ha : DE X B a m1 f) (hb : DE X B b m2 f') : DE X B (.Compare a [.IsNot] [b] pos) m (fBin (gIsN true) f f') := de_cmp op_notN' op2_isN ha hb (nomark _)
theorem dt_is (ha : DE X B a m1 f) (hb : DE X B b m2 f') : DT X B (.Compare a [.Is] [b] pos) (fBool (fBin (gIsN false) f f')) := dt_cmp .rd op_isN' op2_isN ha hb (nomark _)
theorem dt_isnot (ha : DE X B a m1 f) (hb : DE X B b m2 f') : DT X B (.Compare a [.IsNot] [b] pos) (fBool (fBin (gIsN true) f f')) := dt_cmp .rd op_notN' op2_isN ha hb (nomark _)
end
end GK

namespace GK
open PySem PySem.Spec PyProof.Rows L2

/-! ### items -/
def gIxL : D → D → (D → Prop) → Prop
  | .lst ds, .int i, R => ∃ d, atI ds i = some d ∧ R d
  | _, _, _ => False
def gIxT : D → D → (D → Prop) → Prop
  | .tup ds, .int i, R => ∃ d, atI ds i = some d ∧ R d
  | _, _, _ => False
def gIxS : D → D → (D → Prop) → Prop
  | .str z, .int i, R => z.length ≤ sizeLine ∧ ∃ c, atI z.cps.toList i = some c ∧ R (.str ⟨#[c]⟩)
  | _, _, _ => False
/-- list, tuple or text -/
def gIx : D → D → (D → Prop) → Prop
  | .lst ds, .int i, R => ∃ d, atI ds i = some d ∧ R d
  | .tup ds, .int i, R => ∃ d, atI ds i = some d ∧ R d
  | _, _, _ => False
theorem atI_same {α β : Type} {xs : List α} {ys : List β} {i : Int} {d : β} (h : xs.length = ys.length) (e : atI ys i = some d) : ∃ j : Nat, ys[j]? = some d ∧ ∀ x, xs[j]? = some x → atI xs i = some x := by
  unfold atI at e ⊢
  rw [h]
  cases q : ixN ys.length i with
  | none => rw [q] at e; cases e
  | some j =>
    rw [q] at e
    exact ⟨j, e, fun x hx => hx⟩
section
variable {K : PySem.W.Frag} {m m2 : Mode}
theorem op2_ix (hm : m.look = true) : Op2 K (rIx K) m m2 m.child gIx := by
  intro B F H x y d e fp R Q w ⟨f1, f2, ef, h1, h2⟩ _ hg k
  cases d <;> cases e <;> try exact (show False from hg).elim
  · obtain ⟨c, hc, hR⟩ := hg
    obtain ⟨rfl, _⟩ := h2.int
    obtain ⟨_, a, vs, rfl, hs, it⟩ := h1.tup hm w
    obtain ⟨j, e1, e2⟩ := atI_same it.1 hc
    obtain ⟨v, e3, hv⟩ := it.2 j c e1
    exact .inr (.inl ⟨a, vs, _, v, rfl, rfl, hs, e2 v e3, k.val w hv hR⟩)
  · obtain ⟨c, hc, hR⟩ := hg
    obtain ⟨rfl, _⟩ := h2.int
    obtain ⟨_, a, vs, rfl, hs, it⟩ := h1.lst hm w
    obtain ⟨j, e1, e2⟩ := atI_same it.1 hc
    obtain ⟨v, e3, hv⟩ := it.2 j c e1
    exact .inl ⟨a, vs, _, v, rfl, rfl, hs, e2 v e3, k.val w hv hR⟩
theorem op2_ixS {m1 : Mode} : Op2 K rIxS m1 m2 m gIxS := by
  intro B F H x y d e fp R Q w ⟨f1, f2, ef, h1, h2⟩ _ hg k
  cases d <;> cases e <;> try exact (show False from hg).elim
  obtain ⟨hz, c, hc, hR⟩ := hg
  obtain ⟨rfl, _⟩ := h1.str
  obtain ⟨rfl, _⟩ := h2.int
  exact ⟨_, _, c, rfl, rfl, hz, hc, k.str w hR⟩
end
section
variable {X : Cx} {a b : Expr} {pos : Pos} {m m1 m2 : Mode} {f f' : FE}
/-- xs[i], t[i] -/
theorem de_at (ha : DE X B a m f) (hb : DE X B b m2 f') (hm : m.look = true := by rfl) (hs : PlainIx b := by exact fun _ _ => rfl) : DE X B (.Subscript a b pos) m.child (fBin gIx f f') := de_ix ix_seq (op2_ix hm) ha hb hs
theorem de_atS (ha : DE X B a m1 f) (hb : DE X B b m2 f') (hs : PlainIx b := by exact fun _ _ => rfl) : DE X B (.Subscript a b pos) m (fBin gIxS f f') := de_ix ix_str op2_ixS ha hb hs
end

/-! ### dicts, read -/
def lookD : D → D → Option (Option D)
  | .dK es, k => (keyOf k).map (getD' es)
  | .dT es, k => (keyT k).map (getD' es)
  | _, _ => none
theorem look_ok {K : PySem.W.Frag} {m mk : Mode} {B f1 f2 : List Addr} {F H : Hp} {v kv : V} {d kd : D} {o : Option D} (hm : m.look = true) (w : WF B F H) (hv : Val K m B F H v d f1) (hk : R K (rdH B H) kv kd) (h : lookD d kd = some o) :
    ∃ a ov, v = .ref a ∧ DGet H a kv ov ∧ IsD H a ∧ ((o = none ∧ ov = none) ∨ ∃ x y, o = some x ∧ ov = some y ∧ Val K m.child B F H y x []) := by
  cases d <;> try (cases h; done)
  · rename_i es
    obtain ⟨k, ek, eo⟩ := Option.map_eq_some_iff.mp h
    subst eo
    obtain ⟨_, a, kvs, rfl, hr, hk', it⟩ := hv.dK hm w
    have e := keyOf_R ek hk
    subst e
    refine ⟨a, valV kvs k, rfl, .inl ⟨kvs, k, hr, rfl, rfl⟩, .inl ⟨kvs, hr⟩, ?_⟩
    rcases val_get (k := k) hk' with ⟨h1, h2⟩ | ⟨i, y, x, h1, h2, h3, h4⟩
    · exact .inl ⟨h2, h1⟩
    · obtain ⟨y', e3, hy⟩ := it.2 i x h4
      rw [h3] at e3; cases e3
      exact .inr ⟨x, y, h2, h1, hy⟩
  · rename_i es
    obtain ⟨k, ek, eo⟩ := Option.map_eq_some_iff.mp h
    subst eo
    obtain ⟨_, a, kvs, rfl, hr, hk', it⟩ := hv.dT hm w
    cases kd <;> try (cases ek; done)
    rename_i js
    obtain ⟨b, ws, rfl, ht, rl⟩ := hk.tupI
    have e : ws = k.map kV := keysOf_R ek rl
    subst e
    refine ⟨a, valV kvs k, rfl, .inr ⟨kvs, k, b, hr, rfl, tup_of w ht, rfl⟩, .inr ⟨kvs, hr⟩, ?_⟩
    rcases val_get (k := k) hk' with ⟨h1, h2⟩ | ⟨i, y, x, h1, h2, h3, h4⟩
    · exact .inl ⟨h2, h1⟩
    · obtain ⟨y', e3, hy⟩ := it.2 i x h4
      rw [h3] at e3; cases e3
      exact .inr ⟨x, y, h2, h1, hy⟩
theorem DGet.step {H H' : Hp} {B A : List Addr} {F F' : Hp} {a : Addr} {kv : V} {o : Option V} (s : Step B A F H F' H') (g : DGet H a kv o) (ha : a ∉ B) (hb : ∀ b, kv = .ref b → b ∉ B) : DGet H' a kv o := by
  have rd : ∀ {u : HO}, Rd H a u → Rd H' a u := fun {u} r => r.imp (s.same a _ ha) fun ⟨ob, e⟩ => ⟨ob, s.same a _ ha e⟩
  rcases g with ⟨kvs, k, h1, h2, h3⟩ | ⟨kvs, k, b, h1, h2, h3, h4⟩
  · exact .inl ⟨kvs, k, rd h1, h2, h3⟩
  · exact .inr ⟨kvs, k, b, rd h1, h2, s.same b _ (hb b h2) h3, h4⟩
def gDGet (d k : D) (R : D → Prop) : Prop := ∃ x, lookD d k = some (some x) ∧ R x
def gDIn (n : Bool) (k d : D) (R : D → Prop) : Prop := ∃ o, lookD d k = some o ∧ R (.bl (n ^^ o.isSome))
section
variable {K : PySem.W.Frag} {m m1 m2 : Mode}
theorem op2_dget (hm : m.look = true) : Op2 K (fun x y H Q => ∃ a v, x = .ref a ∧ DGet H a y (some v) ∧ Q v H) m m2 m.child gDGet := by
  intro B F H x y d e fp R Q w ⟨f1, f2, ef, h1, h2⟩ hf ⟨z, hz, hR⟩ k
  subst ef
  have r2 := h2.rd w fun a ha => (hf.1 a (List.mem_append_right _ ha)).2
  obtain ⟨a, ov, rfl, g, _, h⟩ := look_ok (m := m) (mk := m2) (f2 := f2) hm w h1 r2 hz
  rcases h with ⟨q, _⟩ | ⟨x', y', e1, e2, hv⟩
  · cases q
  · cases e1
    rw [e2] at g
    exact ⟨a, y', rfl, g, k.val w hv hR⟩
theorem op2_din (hm : m.look = true) {n : Bool} : Op2 K (fun y x H Q => ∃ a o, x = .ref a ∧ DGet H a y o ∧ Q (.bl (n ^^ o.isSome)) H) m2 m m1 (gDIn n) := by
  intro B F H x y d e fp R Q w ⟨f1, f2, ef, h1, h2⟩ hf ⟨o, hz, hR⟩ k
  subst ef
  have r1 := h1.rd w fun a ha => (hf.1 a (List.mem_append_left _ ha)).2
  obtain ⟨a, ov, rfl, g, _, h⟩ := look_ok (m := m) (mk := m2) (f2 := f1) hm w h2 r1 hz
  refine ⟨a, ov, rfl, g, k.bl w ?_⟩
  rcases h with ⟨q, q'⟩ | ⟨x', y', e1, e2, hv⟩
  · rw [q'] ; rw [q] at hR; exact hR
  · rw [e2]; rw [e1] at hR; exact hR
end
section
variable {X : Cx} {a b c : Expr} {pos apos cpos : Pos} {m m0 m1 m2 m3 : Mode} {f f' f'' : FE}
/-- d[k] -/
theorem de_dget (hu : X.A.units + 1 < cLine) (ha : DE X B a m f) (hb : DE X B b m2 f') (hm : m.look = true := by rfl) (hs : NoSl b := by exact fun _ _ => rfl) : DE X B (.Subscript a b pos) m.child (fBin gDGet f f') :=
  PE.imp (pe_dget hu ha hb hs) fun _ _ _ q => tD_bin (r := fun x y H Q => ∃ a v, x = .ref a ∧ DGet H a y (some v) ∧ Q v H) (op2_dget hm) q
theorem tD_in {K : PySem.W.Frag} {σ : L2.St} {H : Hp} {Q : VK} {n : Bool} (hm : m.look = true) (q : tD K B m1 (fBin (gDIn n) f f') σ H Q) : tD K B m2 f σ H fun y H1 => tD K B m f' σ H1 fun x H2 => ∃ a o, x = .ref a ∧ DGet H2 a y o ∧ Q (.bl (n ^^ o.isSome)) H2 :=
  tD_bin (r := fun y x H Q => ∃ a o, x = .ref a ∧ DGet H a y o ∧ Q (.bl (n ^^ o.isSome)) H) (op2_din hm) q
theorem pc_din' {i o : Expr} {ty td : TE} (hu : X.A.units + 1 < cLine) (hi : PE X i ty) (ho : PE X o td) : PC X .In i o (fun σ H Q => ty σ H fun y H1 => td σ H1 fun x H2 => ∃ a o, x = .ref a ∧ DGet H2 a y o ∧ Q (.bl (false ^^ o.isSome)) H2) := by
  have h := pc_din hu hi ho
  unfold tDIn at h
  simpa using h
theorem pc_dnotin' {i o : Expr} {ty td : TE} (hu : X.A.units + 1 < cLine) (hi : PE X i ty) (ho : PE X o td) : PC X .NotIn i o (fun σ H Q => ty σ H fun y H1 => td σ H1 fun x H2 => ∃ a o, x = .ref a ∧ DGet H2 a y o ∧ Q (.bl (true ^^ o.isSome)) H2) := by
  have h := pc_dnotin hu hi ho
  unfold tDNotIn at h
  simpa using h
/-- k in d -/
theorem de_din (hu : X.A.units + 1 < cLine) (hb : DE X B b m2 f) (ha : DE X B a m f') (hm : m.look = true := by rfl) (h1 : behindInMarks .In a = false := by rfl) : DE X B (.Compare b [.In] [a] pos) m1 (fBin (gDIn false) f f') :=
  PE.imp (pe_cmp (pc_din' hu hb ha) h1) fun _ _ _ q => tD_in hm q
theorem de_dnotin (hu : X.A.units + 1 < cLine) (hb : DE X B b m2 f) (ha : DE X B a m f') (hm : m.look = true := by rfl) (h1 : behindInMarks .NotIn a = false := by rfl) : DE X B (.Compare b [.NotIn] [a] pos) m1 (fBin (gDIn true) f f') :=
  PE.imp (pe_cmp (pc_dnotin' hu hb ha) h1) fun _ _ _ q => tD_in hm q
theorem dt_din (hu : X.A.units + 1 < cLine) (hb : DE X B b m2 f) (ha : DE X B a m f') (hm : m.look = true := by rfl) (h1 : behindInMarks .In a = false := by rfl) : DT X B (.Compare b [.In] [a] pos) (fBool (fBin (gDIn false) f f')) :=
  PT.imp (pt_cmp (pc_din' hu hb ha) h1) fun _ _ _ q => tD_in (m1 := .rd) hm (tD_bool q)
theorem dt_dnotin (hu : X.A.units + 1 < cLine) (hb : DE X B b m2 f) (ha : DE X B a m f') (hm : m.look = true := by rfl) (h1 : behindInMarks .NotIn a = false := by rfl) : DT X B (.Compare b [.NotIn] [a] pos) (fBool (fBin (gDIn true) f f')) :=
  PT.imp (pt_cmp (pc_dnotin' hu hb ha) h1) fun _ _ _ q => tD_in (m1 := .rd) hm (tD_bool q)
/-- d.get(k, x): what is found and what stands in its place may be read -/
def gDGet2 (d k x : D) (R : D → Prop) : Prop := ∃ o, lookD d k = some o ∧ R (o.getD x)
def isDctD : D → Prop
  | .dK _ => True
  | .dT _ => True
  | _ => False
theorem isDctD.of {K : PySem.W.Frag} {B f1 : List Addr} {F H : Hp} {v : V} {d : D} (hm : m.look = true) (w : WF B F H) (hv : Val K m B F H v d f1) (h : isDctD d) : ∃ a, v = .ref a ∧ IsD H a ∧ a ∉ B := by
  have nb : ∀ {a : Addr}, (∃ u, rdH B H a = some u) → a ∉ B := fun ⟨u, e⟩ => (rdH_some e).1
  cases d <;> try exact (show False from h).elim
  · have r := hv.rd w (fun a ha => by
      obtain ⟨e, _⟩ := hv.dK hm w
      rw [e] at ha; cases ha)
    obtain ⟨a, kvs, rfl, hr, _⟩ := r.dKI
    exact ⟨a, rfl, .inl ⟨kvs, rd_of_rdH hr⟩, nb ⟨_, hr⟩⟩
  · have r := hv.rd w (fun a ha => by
      obtain ⟨e, _⟩ := hv.dT hm w
      rw [e] at ha; cases ha)
    obtain ⟨a, kvs, rfl, hr, _⟩ := r.dTI
    exact ⟨a, rfl, .inr ⟨kvs, rd_of_rdH hr⟩, nb ⟨_, hr⟩⟩
theorem look_isDct {d k : D} {o : Option D} (h : lookD d k = some o) : isDctD d := by
  cases d <;> first | trivial | (cases h)
theorem de_dget2 (hu : X.A.units + 1 < cLine) (ha : DE X B a m f) (hb : DE X B b .rd f') (hc : DE X B c m.child f'') (hm : m.look = true := by rfl) (hl : ∀ n, m.child ≠ .own (n + 1) := by intro _ z; cases z)
    (M : M2 X a "get" apos b c cpos := by exact ⟨rfl, rfl, rfl, rfl⟩) : DE X B (.Call (.Attribute a "get" apos) [b, c] [] cpos) m.child (fun ρ R => f ρ fun d => isDctD d ∧ f' ρ fun k => f'' ρ fun x => gDGet2 d k x R) :=
  PE.imp (pe_dget2 hu ha hb hc M) fun σ H Q ⟨F, ρ, fp, R, S, hf, k⟩ => by
    refine ⟨F, ρ, fp, _, S, hf, fun F1 H1 v d f1 s1 hv o1 n1 ⟨hd, hg⟩ => ?_⟩
    obtain ⟨a, rfl, hd', haB⟩ := isDctD.of hm s1.wf hv hd
    refine ⟨a, rfl, hd', F1, ρ, fp, _, S.step s1 (fun a ha => by cases ha), hg, fun F2 H2 kv kd f2 s2 hkv o2 n2 hg2 => ?_⟩
    refine ⟨F2, ρ, fp, _, (S.step s1 (fun a ha => by cases ha)).step s2 (fun a ha => by cases ha), hg2, fun F3 H3 xv xd f3 s3 hxv o3 n3 ⟨o, ho, hR⟩ => ?_⟩
    have hv3 := (hv.step s2 fun a ha => (o1 a ha).2.2).step s3 fun a ha => (o1 a ha).2.2
    have hk3 : GK.R X.K (rdH B H3) kv kd := hkv.1.mono (rdH_same s3.same)
    obtain ⟨a', ov, ea, g, _, h⟩ := look_ok (m := m) (mk := .rd) (f2 := []) hm s3.wf hv3 hk3 ho
    cases ea
    have k3 := ((k.after s1 (A1 := []) fun a h => by cases h).after s2 (A1 := []) fun a h => by cases h).after s3 (A1 := f3) fun a ha => (o3 a ha).1
    refine ⟨ov, g, ?_⟩
    rcases h with ⟨q, q'⟩ | ⟨x', y', e1, e2, hy⟩
    · rw [q']
      rw [q] at hR
      exact k3 F3 H3 xv xd f3 (Step.refl s3.wf) hxv (fun a ha => ⟨.inl ha, (o3 a ha).2⟩) n3 hR
    · rw [e2]
      rw [e1] at hR
      exact k3.val s3.wf hy hR
/-- {} -/
theorem de_dnewK (n : Nat) : DE X B (.Dict [] [] pos) (.own (n + 1)) (fun _ R => R (.dK [])) := PE.imp pe_dnewK fun σ H Q ⟨F, ρ, fp, R, S, hf, k⟩ p hp => by
  refine k F _ _ (.dK []) [p] (Step.laid S.wf hp rfl) ⟨p, [], [], rfl, upd_same, rfl, rfl, rfl⟩ (fun a ha => ?_) (by simp) hf
  have e : a = p := by simpa using ha
  subst e
  exact ⟨.inr hp, F_none S.wf hp, S.wf.notB hp⟩
theorem de_dnewT (n : Nat) : DE X B (.Dict [] [] pos) (.own (n + 1)) (fun _ R => R (.dT [])) := PE.imp pe_dnewT fun σ H Q ⟨F, ρ, fp, R, S, hf, k⟩ p hp => by
  refine k F _ _ (.dT []) [p] (Step.laid S.wf hp rfl) ⟨p, [], [], rfl, upd_same, rfl, rfl, rfl⟩ (fun a ha => ?_) (by simp) hf
  have e : a = p := by simpa using ha
  subst e
  exact ⟨.inr hp, F_none S.wf hp, S.wf.notB hp⟩
end
end GK

namespace GK
open PySem PySem.Spec PyProof.Rows L2

/-! ### calls of built-ins -/
section
variable {K : PySem.W.Frag} {m : Mode} {ms : List Mode} {σ : L2.St} {H : Hp}
theorem tD_args {r : List V → Hp → VK → Prop} {g : List D → (D → Prop) → Prop} {fs : FA} {Q : VK} (hr : OpN K r ms m g) (h : tD K B m (fArgs g fs) σ H Q) : tDA K B ms fs σ H fun vs H1 => r vs H1 Q := by
  obtain ⟨F, ρ, fp, R, S, hf, k⟩ := h
  exact ⟨F, ρ, fp, _, S, hf, fun F1 H1 vs ds fp1 s1 hv o1 n1 hg => hr B F1 H1 vs ds fp1 R Q s1.wf hv ⟨fun a ha => (o1 a ha).2, n1⟩ hg (k.after s1 fun a ha => (o1 a ha).1)⟩
end
section
variable {X : Cx} {e : Expr} {es : List Expr} {x : Str} {p pos apos cpos : Pos} {m m1 m2 : Mode} {ms : List Mode} {fs : FA} {f f' : FE} {id T : String} {r : List V → Hp → VK → Prop} {g : List D → (D → Prop) → Prop}
theorem de_B (hc : CallR X (.builtin id) r) (hr : OpN X.K r ms m g) (hg : Gl X x) (hm : X.mg x = none) (hv : bootBuiltins x = some (.builtin id)) (ha : DA X B (e :: es) ms fs) (hn : x ≠ "__name__" := by decide) (hdb : (x == ("__debug__" : Str)) = false := by decide)
    (he : starEach (e :: es) X.env = (false, eval e X.env) :: starEach es X.env := by rfl) (hpl : (backTo pos (starEach es X.env)).any (·.1) = false := by rfl) : DE X B (.Call (.Name x p) (e :: es) [] pos) m (fArgs g fs) :=
  PE.imp (pe_callB hc hg hm hv ha hn hdb he hpl) fun _ _ _ q => tD_args hr q
theorem de_Ty (hc : CallR X (.type T) r) (hr : OpN X.K r ms m g) (hg : Gl X x) (hm : X.mg x = none) (hv : bootBuiltins x = some (.type T)) (ha : DA X B (e :: es) ms fs) (hn : x ≠ "__name__" := by decide) (hdb : (x == ("__debug__" : Str)) = false := by decide)
    (he : starEach (e :: es) X.env = (false, eval e X.env) :: starEach es X.env := by rfl) (hpl : (backTo pos (starEach es X.env)).any (·.1) = false := by rfl) : DE X B (.Call (.Name x p) (e :: es) [] pos) m (fArgs g fs) :=
  PE.imp (pe_callTy hc hg hm hv ha hn hdb he hpl) fun _ _ _ q => tD_args hr q
/-- a built-in method that changes nothing of ours -/
def OpM (K : PySem.W.Frag) (T : String) (r : V → List V → Hp → VK → Prop) (m1 : Mode) (ms : List Mode) (m : Mode) (g0 : D → Prop) (g : D → List D → (D → Prop) → Prop) : Prop :=
  (∀ B F H x d fp, WF B F H → Val K m1 B F H x d fp → Fp B F fp → g0 d → tyV K T x H) ∧
  ∀ B F H x d vs ds fp R Q, WF B F H → (∃ f1 f2, fp = f1 ++ f2 ∧ Val K m1 B F H x d f1 ∧ ValL K B F H ms vs ds f2) → Fp B F fp → g d ds R → Post K B fp F H m R Q → r x vs H Q
theorem tD_meth {K : PySem.W.Frag} {σ : L2.St} {H : Hp} {Q : VK} {r : V → List V → Hp → VK → Prop} {g0 : D → Prop} {g : D → List D → (D → Prop) → Prop} (hr : OpM K T r m1 ms m g0 g) (h : tD K B m (fun ρ R => f ρ fun d => g0 d ∧ fs ρ fun ds => g d ds R) σ H Q) :
    tD K B m1 f σ H fun x H1 => tyV K T x H1 ∧ tDA K B ms fs σ H1 fun xs H2 => r x xs H2 Q := by
  obtain ⟨F, ρ, fp, R, S, hf, k⟩ := h
  refine ⟨F, ρ, fp, _, S, hf, fun F1 H1 v1 d1 fp1 s1 hv1 o1 n1 ⟨h0, hg1⟩ => ⟨hr.1 B F1 H1 v1 d1 fp1 s1.wf hv1 ⟨fun a ha => (o1 a ha).2, n1⟩ h0, ?_⟩⟩
  refine ⟨F1, ρ, fp, _, S.step s1 (fun a ha => by cases ha), hg1, fun F2 H2 v2 d2 fp2 s2 hv2 o2 n2 hg2 => ?_⟩
  have t1 := hv1.there
  have nn : ∀ a ∈ fp1, F2 a = none := fun a ha => by
    obtain ⟨o, e, mu⟩ := t1 a ha
    exact s2.out e mu (o1 a ha).2.2 (o1 a ha).2.1 fun z => by cases z
  refine hr.2 B F2 H2 v1 d1 v2 d2 (fp1 ++ fp2) R Q s2.wf ⟨fp1, fp2, rfl, hv1.step s2 fun a ha => (o1 a ha).2.2, hv2⟩ ⟨fun a ha => ?_, ?_⟩ hg2 ((k.after s1 (A1 := fp1) fun a ha => (o1 a ha).1).after (s2.weak fun a ha => by cases ha) fun a ha => ?_)
  · rcases List.mem_append.mp ha with z | z
    · exact ⟨nn a z, (o1 a z).2.2⟩
    · exact (o2 a z).2
  · refine List.nodup_append.mpr ⟨n1, n2, fun a ha b hb e => ?_⟩
    subst e
    obtain ⟨o, e, mu⟩ := t1 a ha
    rcases (o2 a hb).1 with z | z
    · cases z
    · rw [e] at z; cases z
  · rcases List.mem_append.mp ha with z | z
    · exact .inl z
    · exact .inr ((o2 a z).1.elim (fun z => by cases z) id)
theorem de_M {o : Expr} {name : Str} {r : V → List V → Hp → VK → Prop} {g0 : D → Prop} {g : D → List D → (D → Prop) → Prop} (pa : PlainAttrs T) (slot : Slot T name id) (hty : typeOf (.builtin id) = pure (.type "method_descriptor")) (hm : MtR X id r) (hr : OpM X.K T r m1 ms m g0 g)
    (ho : DE X B o m1 f) (ha : DA X B (e :: es) ms fs) (hb : BmOk X o name apos e es cpos := by exact ⟨rfl, rfl, rfl, rfl, rfl⟩) : DE X B (.Call (.Attribute o name apos) (e :: es) [] cpos) m (fun ρ R => f ρ fun d => g0 d ∧ fs ρ fun ds => g d ds R) :=
  PE.imp (pe_bm pa slot hty hm ho ha hb.1 hb.2 hb.3 hb.4 hb.5) fun _ _ _ q => tD_meth hr q
end
/-! ### len, int, max, min -/
def gLen : List D → (D → Prop) → Prop
  | [.lst ds], R => R (.int ds.length)
  | [.tup ds], R => R (.int ds.length)
  | [.str s], R => s.length ≤ sizeLine ∧ R (.int s.length)
  | [.dK es], R => R (.int es.length)
  | _, _ => False
def gInt : List D → (D → Prop) → Prop
  | [.int i], R => R (.int i)
  | _, _ => False
def gMax2 : List D → (D → Prop) → Prop
  | [.int i, .int j], R => R (.int (if j > i then j else i))
  | _, _ => False
def gMin2 : List D → (D → Prop) → Prop
  | [.int i, .int j], R => R (.int (if j < i then j else i))
  | _, _ => False
theorem ValL.one {K : PySem.W.Frag} {B fp : List Addr} {F H : Hp} {m : Mode} {vs : List V} {d : D} (h : ValL K B F H [m] vs [d] fp) : ∃ v, vs = [v] ∧ Val K m B F H v d fp := by
  cases vs with
  | nil => cases h
  | cons v r =>
    cases r with
    | nil =>
      obtain ⟨f1, f2, e, h1, h2⟩ := h
      have e2 : f2 = [] := h2
      subst e2
      rw [List.append_nil] at e
      subst e
      exact ⟨v, rfl, h1⟩
    | cons w r => obtain ⟨f1, f2, e, h1, h2⟩ := h; cases h2
theorem ValL.two {K : PySem.W.Frag} {B fp : List Addr} {F H : Hp} {m m' : Mode} {vs : List V} {d d' : D} (h : ValL K B F H [m, m'] vs [d, d'] fp) : ∃ v v' f f', vs = [v, v'] ∧ Val K m B F H v d f ∧ Val K m' B F H v' d' f' ∧ fp = f ++ f' := by
  cases vs with
  | nil => cases h
  | cons v r =>
    obtain ⟨f1, f2, e, h1, h2⟩ := h
    obtain ⟨v', rfl, h3⟩ := ValL.one h2
    exact ⟨v, v', f1, f2, rfl, h1, h3, e⟩
section
variable {X : Cx} {e e2 : Expr} {x : Str} {p pos apos cpos : Pos} {m m1 m2 : Mode} {fs : FA} {f f' : FE}
theorem call_lenK : CallR X (.builtin "len") (fun xs H Q => ∃ a kvs, xs = [.ref a] ∧ Rd H a (.dK kvs) ∧ Q (.int kvs.length) H) := by
  intro pins s σ H xs us Q I r h
  obtain ⟨a, kvs, rfl, h, q⟩ := h
  obtain ⟨u, rfl, rx⟩ := r.one
  obtain rfl : u = Value.ref a := rx
  exact d_len I h fun t s' I' => ⟨.int _, H, I', ⟨_, rfl⟩, q⟩
theorem call_len' : CallR X (.builtin "len") (fun xs H Q => (∃ p ys, xs = [.ref p] ∧ (SqL X.K H p ys ∨ SqT X.K H p ys) ∧ Q (.int ys.length) H) ∨ (∃ z, xs = [.str z] ∧ z.length ≤ sizeLine ∧ Q (.int z.length) H) ∨ ∃ a kvs, xs = [.ref a] ∧ Rd H a (.dK kvs) ∧ Q (.int kvs.length) H) :=
  call_len_seq.or (call_len_str.or call_lenK)
theorem opN_len {K : PySem.W.Frag} (hm : m1.look = true) : OpN K (fun xs H Q => (∃ p ys, xs = [.ref p] ∧ (SqL K H p ys ∨ SqT K H p ys) ∧ Q (.int ys.length) H) ∨ (∃ z, xs = [.str z] ∧ z.length ≤ sizeLine ∧ Q (.int z.length) H) ∨ ∃ a kvs, xs = [.ref a] ∧ Rd H a (.dK kvs) ∧ Q (.int kvs.length) H) [m1] m gLen := by
  intro B F H vs ds fp R Q w hv hf hg k
  unfold gLen at hg
  split at hg
  · obtain ⟨v, rfl, h⟩ := hv.one
    obtain ⟨_, a, ws, rfl, hs, it⟩ := h.lst hm w
    exact .inl ⟨a, ws, rfl, .inl hs, by rw [it.1]; exact k.int w hg⟩
  · obtain ⟨v, rfl, h⟩ := hv.one
    obtain ⟨_, a, ws, rfl, hs, it⟩ := h.tup hm w
    exact .inl ⟨a, ws, rfl, .inr hs, by rw [it.1]; exact k.int w hg⟩
  · obtain ⟨v, rfl, h⟩ := hv.one
    obtain ⟨rfl, _⟩ := h.str
    exact .inr (.inl ⟨_, rfl, hg.1, k.int w hg.2⟩)
  · obtain ⟨v, rfl, h⟩ := hv.one
    obtain ⟨_, a, kvs, rfl, hr, hk, it⟩ := h.dK hm w
    have hlen := congrArg List.length hk
    rw [List.length_map, List.length_map] at hlen
    exact .inr (.inr ⟨a, kvs, rfl, hr, by rw [hlen]; exact k.int w hg⟩)
  · exact hg.elim
theorem opN_int {K : PySem.W.Frag} : OpN K (fun xs H Q => (∃ i, xs = [.int i] ∧ Q (.int i) H) ∨ ∃ k, xs = [.bl k] ∧ Q (.int (if k then 1 else 0)) H) [m1] m gInt := by
  intro B F H vs ds fp R Q w hv hf hg k
  unfold gInt at hg
  split at hg
  · obtain ⟨v, rfl, h⟩ := hv.one
    obtain ⟨rfl, _⟩ := h.int
    exact .inl ⟨_, rfl, k.int w hg⟩
  · exact hg.elim
theorem opN_max2 {K : PySem.W.Frag} : OpN K (fun xs H Q => ∃ i j, xs = [.int i, .int j] ∧ Q (.int (if j > i then j else i)) H) [m1, m2] m gMax2 := by
  intro B F H vs ds fp R Q w hv hf hg k
  unfold gMax2 at hg
  split at hg
  · obtain ⟨v, v', f, f', rfl, h, h', _⟩ := hv.two
    obtain ⟨rfl, _⟩ := h.int
    obtain ⟨rfl, _⟩ := h'.int
    exact ⟨_, _, rfl, k.int w hg⟩
  · exact hg.elim
theorem opN_min2 {K : PySem.W.Frag} : OpN K (fun xs H Q => ∃ i j, xs = [.int i, .int j] ∧ Q (.int (if j < i then j else i)) H) [m1, m2] m gMin2 := by
  intro B F H vs ds fp R Q w hv hf hg k
  unfold gMin2 at hg
  split at hg
  · obtain ⟨v, v', f, f', rfl, h, h', _⟩ := hv.two
    obtain ⟨rfl, _⟩ := h.int
    obtain ⟨rfl, _⟩ := h'.int
    exact ⟨_, _, rfl, k.int w hg⟩
  · exact hg.elim
theorem de_len (hz : X.mg "len" = none) (ha : DE X B e m1 f) (hm : m1.look = true := by rfl) (hg : Gl X "len" := by rfl) (he : starEach [e] X.env = (false, eval e X.env) :: starEach [] X.env := by rfl) (hpl : (backTo pos (starEach [] X.env)).any (·.1) = false := by rfl) :
    DE X B (.Call (.Name "len" p) [e] [] pos) m (fArgs gLen (fCons f fNil)) := de_B call_len' (opN_len hm) hg hz PySem.boot_len (da_cons ha da_nil he) (by decide) (by decide) he hpl
theorem de_int' (hz : X.mg "int" = none) (ha : DE X B e m1 f) (hg : Gl X "int" := by rfl) (he : starEach [e] X.env = (false, eval e X.env) :: starEach [] X.env := by rfl) (hpl : (backTo pos (starEach [] X.env)).any (·.1) = false := by rfl) :
    DE X B (.Call (.Name "int" p) [e] [] pos) m (fArgs gInt (fCons f fNil)) := de_Ty call_int1 opN_int hg hz (by decide +kernel) (da_cons ha da_nil he) (by decide) (by decide) he hpl
theorem de_max2 (hc : X.calm = true) (hz : X.mg "max" = none) (ha : DE X B e m1 f) (hb : DE X B e2 m2 f') (hg : Gl X "max" := by rfl) (he : starEach [e, e2] X.env = (false, eval e X.env) :: starEach [e2] X.env := by rfl) (he2 : starEach [e2] X.env = (false, eval e2 X.env) :: starEach [] X.env := by rfl) (hpl : (backTo pos (starEach [e2] X.env)).any (·.1) = false := by rfl) :
    DE X B (.Call (.Name "max" p) [e, e2] [] pos) m (fArgs gMax2 (fCons f (fCons f' fNil))) := de_B (call_max2 hc) opN_max2 hg hz (by decide +kernel) (da_cons ha (da_cons hb da_nil he2) he) (by decide) (by decide) he hpl
theorem de_min2 (hc : X.calm = true) (hz : X.mg "min" = none) (ha : DE X B e m1 f) (hb : DE X B e2 m2 f') (hg : Gl X "min" := by rfl) (he : starEach [e, e2] X.env = (false, eval e X.env) :: starEach [e2] X.env := by rfl) (he2 : starEach [e2] X.env = (false, eval e2 X.env) :: starEach [] X.env := by rfl) (hpl : (backTo pos (starEach [e2] X.env)).any (·.1) = false := by rfl) :
    DE X B (.Call (.Name "min" p) [e, e2] [] pos) m (fArgs gMin2 (fCons f (fCons f' fNil))) := de_B (call_min2 hc) opN_min2 hg hz (by decide +kernel) (da_cons ha (da_cons hb da_nil he2) he) (by decide) (by decide) he hpl
end

/-! ### lists whose items may be read, and new ones -/
/-- the items of a list may be read -/
def Mode.flat1 : Mode → Bool
  | .own 0 => true
  | .bor 0 => true
  | .bor 1 => true
  | _ => false
theorem Val.lstRL {K : PySem.W.Frag} {B fp : List Addr} {F H : Hp} {m : Mode} {v : V} {ds : List D} (hm : m.flat1 = true) (w : WF B F H) (h : Val K m B F H v (.lst ds) fp) : ∃ a vs, v = .ref a ∧ H a = some (.lst vs) ∧ RL K F vs ds := by
  cases m with
  | rd => cases hm
  | own n =>
    cases n with
    | zero =>
      obtain ⟨a, vs, e, h1, r⟩ := h.1.lstI
      exact ⟨a, vs, e, lst_of w (w.sub _ _ h1), r⟩
    | succ n => cases hm
  | bor n =>
    obtain ⟨⟨f, h, hf⟩, e0⟩ := h
    cases n with
    | zero =>
      obtain ⟨a, vs, e, h1, r⟩ := h.1.lstI
      exact ⟨a, vs, e, lst_of w (w.sub _ _ h1), r⟩
    | succ n =>
      cases n with
      | zero =>
        obtain ⟨a, vs, g, e, h1, ef, t⟩ := h
        exact ⟨a, vs, e, h1, t.toRL0⟩
      | succ n => cases hm
def gCat : D → D → (D → Prop) → Prop
  | .lst xs, .lst ys, R => xs.length + ys.length ≤ sizeLine ∧ R (.lst (xs ++ ys))
  | _, _, _ => False
def gRep : D → D → (D → Prop) → Prop
  | .lst xs, .int k, R => -(2 ^ 63) ≤ k ∧ k < 2 ^ 63 ∧ xs.length * k.toNat ≤ sizeLine ∧ R (.lst (List.replicate k.toNat xs).flatten)
  | _, _, _ => False
theorem RL.rep {K : PySem.W.Frag} {F : Hp} {vs : List V} {ds : List D} (h : RL K F vs ds) : ∀ n : Nat, RL K F (List.replicate n vs).flatten (List.replicate n ds).flatten
  | 0 => .nil
  | n + 1 => by
    rw [List.replicate_succ, List.replicate_succ, List.flatten_cons, List.flatten_cons]
    exact h.append (RL.rep h n)
section
variable {X : Cx} {a b : Expr} {pos : Pos} {m m1 m2 : Mode} {f f' : FE}
/-- xs + ys -/
theorem de_cat (ha : DE X B a m1 f) (hb : DE X B b m2 f') (h1 : m1.flat1 = true := by rfl) (h2 : m2.flat1 = true := by rfl) : DE X B (.BinOp a .Add b pos) (.own 1) (fBin gCat f f') := de_op op_cat (by
  intro B F H x y d e fp R Q w ⟨f1, f2, ef, hx, hy⟩ _ hg k
  cases d <;> cases e <;> try exact (show False from hg).elim
  obtain ⟨p, vs, rfl, hp, r⟩ := hx.lstRL h1 w
  obtain ⟨q, ws, rfl, hq, t⟩ := hy.lstRL h2 w
  exact ⟨p, q, vs, ws, rfl, rfl, hp, hq, by rw [r.length, t.length]; exact hg.1, fun z hz => k.newLst0 w (r.append t) hg.2 hz⟩) ha hb
/-- xs * n -/
theorem de_rep (ha : DE X B a m1 f) (hb : DE X B b m2 f') (h1 : m1.flat1 = true := by rfl) : DE X B (.BinOp a .Mult b pos) (.own 1) (fBin gRep f f') := de_op op_rep (by
  intro B F H x y d e fp R Q w ⟨f1, f2, ef, hx, hy⟩ _ hg k
  cases d <;> cases e <;> try exact (show False from hg).elim
  obtain ⟨p, vs, rfl, hp, r⟩ := hx.lstRL h1 w
  obtain ⟨rfl, _⟩ := hy.int
  exact ⟨p, _, vs, rfl, rfl, hp, hg.1, hg.2.1, by rw [r.length]; exact hg.2.2.1, fun z hz => k.newLst0 w (r.rep _) hg.2.2.2 hz⟩) ha hb
end
/-! slices -/
abbrev FO := Env → (Option Int → Prop) → Prop
def tDO (K : PySem.W.Frag) (B : List Addr) (f : FO) : TO := fun σ H Q => ∃ F ρ fp R, StOk K B [] noH noH F H σ ρ fp ∧ f ρ R ∧ ∀ F' H' o, Step B [] F H F' H' → R o → Q o H'
abbrev DO (X : Cx) (B : List Addr) (e : Option Expr) (f : FO) : Prop := PO X e (tDO X.K B f)
theorem PO.imp {X : Cx} {e : Option Expr} {t t' : TO} (h : PO X e t) (k : ∀ σ H Q, t' σ H Q → t σ H Q) : PO X e t' := ⟨fun pins s σ H Q I q => h.run pins s σ H Q I (k σ H Q q)⟩
def cutD (xs : List D) (lo hi : Option Int) : List D := (xs.drop (HT.sIx xs.length 0 lo)).take (HT.sIx xs.length xs.length hi - HT.sIx xs.length 0 lo)
def iOf (R : Option Int → Prop) : D → Prop
  | .int i => R (some i)
  | _ => False
section
variable {X : Cx} {e : Expr} {lo hi : Option Expr} {pos p2 : Pos} {m m1 : Mode} {f : FE} {fl fh : FO}
theorem do_none : DO X B none (fun _ R => R none) := PO.imp po_none fun σ H Q ⟨F, ρ, fp, R, S, hf, k⟩ => k F H none (Step.refl S.wf) hf
theorem do_some (h : DE X B e m f) : DO X B (some e) (fun ρ R => f ρ (iOf R)) := PO.imp (po_some h) fun σ H Q ⟨F, ρ, fp, R, S, hf, k⟩ => ⟨F, ρ, fp, _, S, hf, fun F' H' v d f' s hv ho hn hR => by
  cases d <;> try exact (show False from hR).elim
  obtain ⟨rfl, _⟩ := hv.int
  exact ⟨_, rfl, k F' H' _ s hR⟩⟩
def gSlL (d : D) (lo hi : Option Int) (R : D → Prop) : Prop := match d with
  | .lst xs => R (.lst (cutD xs lo hi))
  | _ => False
def gSlT (d : D) (lo hi : Option Int) (R : D → Prop) : Prop := match d with
  | .tup xs => R (.tup (cutD xs lo hi))
  | _ => False
def gSlS (d : D) (lo hi : Option Int) (R : D → Prop) : Prop := match d with
  | .str z => z.length ≤ sizeLine ∧ R (.str (cutS z lo hi))
  | _ => False
theorem cut_rl {K : PySem.W.Frag} {F : Hp} {vs : List V} {ds : List D} (h : RL K F vs ds) (lo hi : Option Int) : RL K F (cutV vs lo hi) (cutD ds lo hi) := by
  unfold cutV cutD
  rw [h.length]
  exact (h.drop _).take _
theorem tD_slice {K : PySem.W.Frag} {σ : L2.St} {H : Hp} {Q : VK} {r : V → Option Int → Option Int → Hp → VK → Prop} {g : D → Option Int → Option Int → (D → Prop) → Prop}
    (hr : ∀ B F H x d fp lo hi R Q, WF B F H → Val K m1 B F H x d fp → Fp B F fp → g d lo hi R → Post K B fp F H m R Q → r x lo hi H Q)
    (h : tD K B m (fun ρ R => f ρ fun d => fl ρ fun lo => fh ρ fun hi => g d lo hi R) σ H Q) : tD K B m1 f σ H fun x H1 => tDO K B fl σ H1 fun l H2 => tDO K B fh σ H2 fun u H3 => r x l u H3 Q := by
  obtain ⟨F, ρ, fp, R, S, hf, k⟩ := h
  refine ⟨F, ρ, fp, _, S, hf, fun F1 H1 v d fp1 s1 hv o1 n1 hg => ?_⟩
  refine ⟨F1, ρ, fp, _, S.step s1 (fun a ha => by cases ha), hg, fun F2 H2 lo s2 hg2 => ?_⟩
  refine ⟨F2, ρ, fp, _, (S.step s1 (fun a ha => by cases ha)).step s2 (fun a ha => by cases ha), hg2, fun F3 H3 hi s3 hg3 => ?_⟩
  have t1 := hv.there
  have s23 := s2.trans s3 fun a ha => by cases ha
  refine hr B F3 H3 v d fp1 lo hi R Q s3.wf (hv.step s23 fun a ha => (o1 a ha).2.2) ⟨fun a ha => ?_, n1⟩ hg3 ((k.after s1 (A1 := fp1) fun a ha => (o1 a ha).1).after (s23.weak fun a ha => by cases ha) fun a ha => .inl ha)
  obtain ⟨o, e, mu⟩ := t1 a ha
  exact ⟨s23.out e mu (o1 a ha).2.2 (o1 a ha).2.1 (fun z => (by cases z)), (o1 a ha).2.2⟩
/-- xs[lo:hi] -/
theorem de_slL (he : DE X B e m1 f) (hl : DO X B lo fl) (hh : DO X B hi fh) (h1 : m1.flat1 = true := by rfl) : DE X B (.Subscript e (.Slice lo hi none p2) pos) (.own 1) (fun ρ R => f ρ fun d => fl ρ fun lo => fh ρ fun hi => gSlL d lo hi R) :=
  PE.imp (pe_slice sl_list he hl hh) fun _ _ _ q => tD_slice (m := .own 1) (r := rSlL X.K) (g := gSlL) (by
    intro B F H x d fp lo hi R Q w hv hf hg k
    cases d <;> try exact (show False from hg).elim
    obtain ⟨p, vs, rfl, hp, r⟩ := hv.lstRL h1 w
    exact ⟨p, vs, rfl, SqL.of hp, fun z hz => k.newLst0 w (cut_rl r lo hi) hg hz⟩) q
theorem de_slS (he : DE X B e m1 f) (hl : DO X B lo fl) (hh : DO X B hi fh) : DE X B (.Subscript e (.Slice lo hi none p2) pos) m (fun ρ R => f ρ fun d => fl ρ fun lo => fh ρ fun hi => gSlS d lo hi R) :=
  PE.imp (pe_slice sl_str he hl hh) fun _ _ _ q => tD_slice (m := m) (r := rSlS) (g := gSlS) (by
    intro B F H x d fp lo hi R Q w hv hf hg k
    cases d <;> try exact (show False from hg).elim
    obtain ⟨rfl, _⟩ := hv.str
    exact ⟨_, rfl, hg.1, k.str w hg.2⟩) q
end
end GK

namespace GK
open PySem PySem.Spec PyProof.Rows L2

/-! ### targets -/
def tgN (i : Nat) : D → Env → Option Env := fun d ρ => if i < ρ.length then some (ρ.set i (some (0, d))) else none
def tgL : List Nat → List D → Env → Option Env
  | [], [], ρ => some ρ
  | i :: is, d :: ds, ρ => if i < ρ.length then tgL is ds (ρ.set i (some (0, d))) else none
  | _, _, _ => none
def tgT (is : List Nat) : D → Env → Option Env := fun d ρ => match d with
  | .tup ds => tgL is ds ρ
  | _ => none
section
variable {X : Cx} {pin i : Nat} {x : Str} {pos : Pos}
theorem dg_name (i : Nat) (hN : X.N.Nodup) (hi : X.N[i]? = some x) (hx : Loc X.env.scope x) (hp : pin ≤ i) (hf : X.fn x = true ∨ X.env.scope.names.lookup x = some .local := by first | exact .inl rfl | exact .inr rfl | assumption) : DG X pin (.Name x pos) (tgN i) :=
  ⟨gName i, pg_name hN hi hx hf, fun B Pn Z0 F0 F H σ ρ ρ' fp v d hpl S r e Q k => by
    unfold tgN at e
    split at e
    · rename_i hi'
      cases e
      obtain ⟨fp', S'⟩ := S.set (n := 0) (f := []) (i := i) ⟨r, rfl⟩ .nil hi' (by omega)
      exact k _ fp' S'
    · cases e⟩
/-- several -/
structure DGs (X : Cx) (pin : Nat) (ts : List Expr) (is : List Nat) : Prop where
  ok : ∃ g : TGs, PGs X ts g ∧ ∀ (B : List Addr) (Pn : List V) (Z0 F0 F H : Hp) (σ : L2.St) (ρ ρ' : Env) (fp : List Addr) (vs : List V) (ds : List D), Pn.length = pin → StOk X.K B Pn Z0 F0 F H σ ρ fp → RL X.K F vs ds → tgL is ds ρ = some ρ' →
    ∀ Q : L2.St → Hp → Prop, (∀ σ' fp', StOk X.K B Pn Z0 F0 F H σ' ρ' fp' → Q σ' H) → g vs σ H Q
theorem dgs_nil : DGs X pin [] [] := ⟨gNil, pgs_nil, fun B Pn Z0 F0 F H σ ρ ρ' fp vs ds hpl S r e Q k => by
  cases r with
  | nil => cases e; exact ⟨rfl, k σ fp S⟩
  | cons h t => cases e⟩
theorem dgs_cons {is : List Nat} {es : List Expr} (i : Nat) (hN : X.N.Nodup) (hi : X.N[i]? = some x) (hx : Loc X.env.scope x) (hp : pin ≤ i) (h : DGs X pin es is) (hf : X.fn x = true ∨ X.env.scope.names.lookup x = some .local := by first | exact .inl rfl | exact .inr rfl | assumption)
    (hs : (assignEach (.Name x pos :: es) X.env).map (·.2) = assign (.Name x pos) X.env :: (assignEach es X.env).map (·.2) := by rfl) : DGs X pin (.Name x pos :: es) (i :: is) := by
  obtain ⟨g, pg, kg⟩ := h.ok
  refine ⟨_, pgs_cons (pg_name hN hi hx hf) pg hs, fun B Pn Z0 F0 F H σ ρ ρ' fp vs ds hpl S r e Q k => ?_⟩
  cases r with
  | nil => cases e
  | cons h t =>
    unfold tgL at e
    split at e
    · rename_i hi'
      obtain ⟨fp', S'⟩ := S.set (n := 0) (f := []) (i := i) ⟨h, rfl⟩ .nil hi' (by omega)
      exact ⟨_, _, rfl, kg B Pn Z0 F0 F H _ _ ρ' fp' _ _ hpl S' t e Q k⟩
    · cases e
theorem tgL_len : ∀ {is : List Nat} {ds : List D} {ρ ρ' : Env}, tgL is ds ρ = some ρ' → ds.length = is.length
  | [], [], _, _, _ => rfl
  | i :: is, d :: ds, ρ, ρ', e => by
    unfold tgL at e
    split at e
    · rw [List.length_cons, List.length_cons, tgL_len e]
    · cases e
  | [], _ :: _, _, _, e => by cases e
  | _ :: _, [], _, _, e => by cases e
theorem dg_tup {is : List Nat} {es : List Expr} {k : Nat} (hc : X.calm = true) (h : DGs X pin es is) (hn : (assignEach es X.env).length = is.length := by rfl) (hst : (assignEach es X.env).findIdx? (·.1) = none := by rfl) : DG X pin (.Tuple es k pos) (tgT is) := by
  obtain ⟨g, pg, kg⟩ := h.ok
  refine ⟨_, pg_tup hc pg hn hst, fun B Pn Z0 F0 F H σ ρ ρ' fp v d hpl S r e Q k => ?_⟩
  unfold tgT at e
  cases d <;> try (cases e; done)
  obtain ⟨a, vs, rfl, ht, rl⟩ := r.tupI
  exact ⟨a, vs, rfl, tup_sub S.wf ht, by rw [rl.length]; exact tgL_len e, kg B Pn Z0 F0 F H σ ρ ρ' fp vs _ hpl S rl e Q k⟩
end

/-! ### what is walked -/
def xsOf (R : List D → Prop) : D → Prop
  | .lst xs => R xs
  | _ => False
def tsOf (R : List D → Prop) : D → Prop
  | .tup xs => R xs
  | _ => False
def seqOf (R : List D → Prop) : D → Prop
  | .lst xs => R xs
  | .tup xs => R xs
  | _ => False
section
variable {K : PySem.W.Frag} {B fp : List Addr} {F F1 H H1 : Hp}
theorem protF {F1 H1 : Hp} (hF : ∀ a ∈ fp, F1 a = none) (w : WF B F1 H1) {a : Addr} {u : HO} (h : F1 a = some u) : ∃ x, prot B fp H1 a = some x ∧ erO x = u := by
  obtain ⟨hb, x, e, n⟩ := rdH_some (w.sub a u h)
  refine ⟨x, ?_, n⟩
  rw [prot_out (fun hf => ?_) hb]
  · exact e
  · rw [hF a hf] at h; cases h
theorem itD_list {a : Addr} {vs : List V} {xs : List D} (hF : ∀ a ∈ fp, F1 a = none) (w : WF B F1 H1) (h : F1 a = some (.lst vs)) (r : RL K F1 vs xs) : ItD K B (prot B fp H1) F1 (Itl K a) xs := by
  intro i F H w' sz sf
  obtain ⟨x, ex, er⟩ := protF hF w h
  have hs : SqL K H a vs := .inl (rd_of_er (sz a x ex) er)
  have rl := r.mono sf
  refine ⟨fun hi => ?_, fun hi => ⟨vs, hs, by rw [r.length]; exact hi⟩⟩
  have hi' : i < vs.length := by rw [r.length]; exact hi
  refine ⟨⟨vs, vs[i], hs, by simp [hi']⟩, fun y H' ⟨e, hy⟩ => ?_⟩
  subst e
  obtain ⟨d, ed, rd⟩ := rl.getV (hy vs hs)
  exact ⟨F, d, ed, Step.refl w', rd⟩
theorem itD_tup {a : Addr} {vs : List V} {xs : List D} (hF : ∀ a ∈ fp, F1 a = none) (w : WF B F1 H1) (h : F1 a = some (.tup vs)) (r : RL K F1 vs xs) : ItD K B (prot B fp H1) F1 (Itt K a) xs := by
  intro i F H w' sz sf
  obtain ⟨x, ex, er⟩ := protF hF w h
  have hs : SqT K H a vs := .inl (rd_of_er (sz a x ex) er)
  have rl := r.mono sf
  refine ⟨fun hi => ?_, fun hi => ⟨vs, hs, by rw [r.length]; exact hi⟩⟩
  have hi' : i < vs.length := by rw [r.length]; exact hi
  refine ⟨⟨vs, vs[i], hs, by simp [hi']⟩, fun y H' ⟨e, hy⟩ => ?_⟩
  subst e
  obtain ⟨d, ed, rd⟩ := rl.getV (hy vs hs)
  exact ⟨F, d, ed, Step.refl w', rd⟩
/-- 0, 1, .. -/
def rangeD (lo : Int) (n : Nat) : List D := (List.range n).map fun i : Nat => D.int (lo + (i : Int))
theorem itD_rng {Z : Hp} {lo : Int} {n : Nat} : ItD K B Z F1 (Itr lo n) (rangeD lo n) := by
  intro i F H w' sz sf
  unfold rangeD
  rw [List.length_map, List.length_range]
  refine ⟨fun hi => ⟨hi, fun y H' ⟨e, hy⟩ => ?_⟩, fun hi => hi⟩
  subst e
  subst hy
  exact ⟨F, .int (lo + i), by simp [hi], Step.refl w', .int _⟩
end
section
variable {X : Cx} {tg e e2 : Expr} {pos p : Pos} {m m2 : Mode} {f f' : FE}
theorem outF {K : PySem.W.Frag} {B fp : List Addr} {Pn : List V} {Z0 F0 F H : Hp} {σ : L2.St} {ρ : Env} (S : StOk K B Pn Z0 F0 F H σ ρ fp) : ∀ a ∈ fp, F a = none := fun a ha => (S.out a ha).1
theorem di_list (h : DE X B e (.own 0) f) : DI X B tg e (fun ρ R => f ρ (xsOf R)) := PI.imp (pi_list h) fun σ H R ⟨F, ρ, fp, Rx, S, hf, k⟩ => ⟨F, ρ, fp, _, S, hf, fun F1 H1 v d f1 s1 hv o1 n1 hR => by
  cases d <;> try exact (show False from hR).elim
  obtain ⟨a, vs, rfl, h1, r⟩ := hv.1.lstI
  exact ⟨a, rfl, ⟨vs, lst_sub s1.wf h1⟩, k _ F1 H1 _ s1 (itD_list (outF (S.step s1 fun a h => by cases h)) s1.wf h1 r) hR⟩⟩
theorem di_tup (h : DE X B e (.own 0) f) : DI X B tg e (fun ρ R => f ρ (tsOf R)) := PI.imp (pi_tup h) fun σ H R ⟨F, ρ, fp, Rx, S, hf, k⟩ => ⟨F, ρ, fp, _, S, hf, fun F1 H1 v d f1 s1 hv o1 n1 hR => by
  cases d <;> try exact (show False from hR).elim
  obtain ⟨a, vs, rfl, h1, r⟩ := hv.1.tupI
  exact ⟨a, rfl, ⟨vs, tup_sub s1.wf h1⟩, k _ F1 H1 _ s1 (itD_tup (outF (S.step s1 fun a h => by cases h)) s1.wf h1 r) hR⟩⟩
def rng1 (R : List D → Prop) : D → Prop
  | .int n => -(2 ^ 62) ≤ n ∧ n < 2 ^ 62 ∧ R (rangeD 0 n.toNat)
  | _ => False
def rng2 (R : List D → Prop) : D → D → Prop
  | .int i, .int j => (-(2 ^ 62) ≤ i ∧ i < 2 ^ 62 ∧ -(2 ^ 62) ≤ j ∧ j < 2 ^ 62) ∧ R (rangeD i (j - i).toNat)
  | _, _ => False
theorem di_range (hz : X.mg "range" = none) (h : DE X B e m f) (hg : Gl X "range" := by rfl) (hs : starEach [e] X.env = [(false, eval e X.env)] := by rfl) (hs' : starEach [e] X.env = (false, eval e X.env) :: starEach [] X.env := by rfl) : DI X B tg (.Call (.Name "range" p) [e] [] pos) (fun ρ R => f ρ (rng1 R)) :=
  PI.imp (pi_range1 hg hz (da_cons h da_nil hs') hs) fun σ H R ⟨F, ρ, fp, Rx, S, hf, k⟩ => ⟨F, ρ, fp, fun ds => ∃ d, ds = [d] ∧ rng1 Rx d, S, by
    show f ρ fun x => ∃ d, [x] = [d] ∧ rng1 Rx d
    have : (fun x => ∃ d, [x] = [d] ∧ rng1 Rx d) = rng1 Rx := by
      funext x
      exact propext ⟨fun ⟨d, e, h⟩ => by cases e; exact h, fun h => ⟨x, rfl, h⟩⟩
    rw [this]; exact hf, fun F1 H1 vs ds f1 s1 hv o1 n1 ⟨d, ed, hR⟩ => by
    subst ed
    obtain ⟨v, rfl, h1⟩ := hv.one
    cases d <;> try exact (show False from hR).elim
    obtain ⟨rfl, _⟩ := h1.int
    exact ⟨_, rfl, hR.1, hR.2.1, k _ F1 H1 _ s1 itD_rng hR.2.2⟩⟩
theorem di_range2 (hz : X.mg "range" = none) (h : DE X B e m f) (h' : DE X B e2 m2 f') (hg : Gl X "range" := by rfl) (hs : starEach [e, e2] X.env = [(false, eval e X.env), (false, eval e2 X.env)] := by rfl) (hs2 : starEach [e2] X.env = [(false, eval e2 X.env)] := by rfl)
    (hs' : starEach [e, e2] X.env = (false, eval e X.env) :: starEach [e2] X.env := by rfl) (hs2' : starEach [e2] X.env = (false, eval e2 X.env) :: starEach [] X.env := by rfl) : DI X B tg (.Call (.Name "range" p) [e, e2] [] pos) (fun ρ R => f ρ fun x => f' ρ fun y => rng2 R x y) :=
  PI.imp (pi_range2 hg hz (da_cons h (da_cons h' da_nil hs2') hs') hs hs2) fun σ H R ⟨F, ρ, fp, Rx, S, hf, k⟩ => ⟨F, ρ, fp, fun ds => ∃ d d', ds = [d, d'] ∧ rng2 Rx d d', S, by
    show f ρ fun x => f' ρ fun y => ∃ d d', [x, y] = [d, d'] ∧ rng2 Rx d d'
    have : (fun x => f' ρ fun y => ∃ d d', [x, y] = [d, d'] ∧ rng2 Rx d d') = fun x => f' ρ fun y => rng2 Rx x y := by
      funext x
      congr 1
      funext y
      exact propext ⟨fun ⟨d, d', e, h⟩ => by cases e; exact h, fun h => ⟨x, y, rfl, h⟩⟩
    rw [this]; exact hf, fun F1 H1 vs ds f1 s1 hv o1 n1 ⟨d, d', ed, hR⟩ => by
    subst ed
    obtain ⟨v, v', g, g', rfl, h1, h2, _⟩ := hv.two
    cases d <;> cases d' <;> try exact (show False from hR).elim
    obtain ⟨rfl, _⟩ := h1.int
    obtain ⟨rfl, _⟩ := h2.int
    exact ⟨_, _, rfl, hR.1, k _ F1 H1 _ s1 itD_rng hR.2⟩⟩
end
end GK

namespace GK
open PySem PySem.Spec PyProof.Rows L2

/-! ### a for over a dict: it is locked meanwhile -/
section
variable {X : Cx} {st : Stmt} {e : Expr} {t : TS} {te : TE}
def unlQ (X : Cx) (Q : VK) : VK := fun v H => Q v H ∨ ∃ d od u, H d = some (.frz od u) ∧ (∀ o' u', X.H_0 d ≠ some (.frz o' u')) ∧ Q v (upd H d u)
def unlS (X : Cx) (Q : L2.St → Hp → Prop) : L2.St → Hp → Prop := fun σ H => Q σ H ∨ ∃ d od u, H d = some (.frz od u) ∧ (∀ o' u', X.H_0 d ≠ some (.frz o' u')) ∧ Q σ (upd H d u)
def unlEnds (X : Cx) (D : Ends) : Ends := ⟨unlS X D.nx, unlQ X D.rt, unlS X D.bk, unlS X D.ct⟩
theorem ps_unl (h : PS X st t) : PS X st (fun D σ H => t (unlEnds X D) σ H) := ⟨fun pins s σ H D I q => thn (h.run pins s σ H (unlEnds X D) I q) fun f s' hs => by
  have go : ∀ {Q : L2.St → Hp → Prop}, (∃ σ' H', L2.Inv X pins σ' H' s' ∧ unlS X Q σ' H') → ∃ σ' H', L2.Inv X pins σ' H' s' ∧ Q σ' H' := fun {Q} ⟨σ', H', I', q⟩ => by
    rcases q with q | ⟨d, od, u, h1, h2, q⟩
    · exact ⟨σ', H', I', q⟩
    · exact ⟨σ', _, I'.unlock h1 h2, q⟩
  cases f with
  | next => exact go hs
  | brk => exact go hs
  | cont => exact go hs
  | ret u =>
    obtain ⟨v, σ', H', I', r, q⟩ := hs
    rcases q with q | ⟨d, od, u, h1, h2, q⟩
    · exact ⟨v, σ', H', I', r, q⟩
    · exact ⟨v, σ', _, I'.unlock h1 h2, r, q⟩⟩
theorem pe_unl (h : PE X e te) : PE X e (fun σ H Q => te σ H (unlQ X Q)) := ⟨fun pins s σ H Q I q => thn (h.run pins s σ H _ I q) fun v s' ⟨x, H', I', r, q⟩ => by
  rcases q with q | ⟨d, od, u, h1, h2, q⟩
  · exact ⟨x, H', I', r, q⟩
  · exact ⟨x, _, I'.unlock h1 h2, r, q⟩⟩
theorem pe_lockA (h : PE X e te) : PE X e (fun σ H Q => te σ H fun x H1 => Q x H1 ∨ ∃ d u, H1 d = some u ∧ Mut (some u) ∧ ∀ od, (∀ o' u', X.H_0 d ≠ some (.frz o' u')) → Q x (upd H1 d (.frz od u))) :=
  ⟨fun pins s σ H Q I q => thn (h.run pins s σ H _ I q) fun v s' ⟨x, H', I', r, q⟩ => by
    rcases q with q | ⟨d, u, h1, mu, k⟩
    · exact ⟨x, H', I', r, q⟩
    · obtain ⟨od, I2⟩ := I'.lock h1 mu
      exact ⟨x, _, I2, r, k od (I'.nofrz h1 mu)⟩⟩
end
section
variable {K : PySem.W.Frag} {B fp : List Addr} {Pn : List V} {Z0 F0 F F1 H H1 : Hp} {σ : L2.St} {ρ : Env}
/-- the loop itself, from a base of its own -/
theorem for_core {X : Cx} {pin : Nat} {mr : Mode} {gb : FS} {t : D → Env → Option Env} {g : TG} {J : It} {xs : List D} {E : DEnds} {Dn : Ends} {Z1 : Hp} (hpl : Pn.length = pin)
    (kg : ∀ (B : List Addr) (Pn : List V) (Z0 F0 F H : Hp) (σ : L2.St) (ρ ρ' : Env) (fp : List Addr) (v : V) (d : D), Pn.length = pin → StOk X.K B Pn Z0 F0 F H σ ρ fp → R X.K F v d → t d ρ = some ρ' →
      ∀ Q : L2.St → Hp → Prop, (∀ σ' fp', StOk X.K B Pn Z0 F0 F H σ' ρ' fp' → Q σ' H) → g v σ H Q)
    (S : StOk X.K B Pn Z1 F1 F1 H1 σ ρ fp) (it : ItD X.K B Z1 F1 J xs) (hx : forD t gb xs E ρ) (L : Links X.K B Pn Z1 F1 mr E Dn) :
    ∃ W : Nat → Nat → L2.St → Hp → Prop, (∃ m, W 0 m σ H1) ∧ ∀ i m σ H, W i m σ H → (J.stop i H ∧ Dn.nx σ H) ∨ (J.go i H ∧ ∃ N : L2.St → Hp → Prop, (∀ σ' H', N σ' H' → ∃ m', m' < m ∧ W (i + 1) m' σ' H') ∧
      ∀ x H', J.yld i H x H' → g x σ H' fun σ2 H2 => tDS X.K B pin mr gb { Dn with nx := N, ct := N, bk := Dn.nx } σ2 H2) := by
  refine ⟨fun i m σ H => ∃ F ρ fp', StOk X.K B Pn Z1 F1 F H σ ρ fp' ∧ m = xs.length - i ∧ i ≤ xs.length ∧ forD t gb (xs.drop i) E ρ, ⟨xs.length, F1, ρ, fp, S, rfl, Nat.zero_le _, hx⟩, ?_⟩
  rintro i m σ H ⟨F, ρ, fp', S, rfl, hi, hr⟩
  obtain ⟨k1, k2⟩ := it i F H S.wf S.z S.f
  by_cases hlt : i < xs.length
  · refine .inr ⟨(k1 hlt).1, fun σ' H' => ∃ F ρ fp', StOk X.K B Pn Z1 F1 F H' σ' ρ fp' ∧ forD t gb (xs.drop (i + 1)) E ρ, fun σ' H' ⟨F, ρ, fp', S, h⟩ => ⟨xs.length - (i + 1), by omega, F, ρ, fp', S, rfl, hlt, h⟩, fun x H' y => ?_⟩
    obtain ⟨F2, d, ed, s2, r2⟩ := (k1 hlt).2 x H' y
    have S2 := S.step s2 fun a h => (by cases h)
    rw [List.drop_eq_getElem_cons hlt] at hr
    have ed' : xs[i] = d := Option.some.inj ((List.getElem?_eq_getElem hlt).symm.trans ed)
    rw [ed'] at hr
    obtain ⟨ρ', et, hb'⟩ := hr
    refine kg B Pn _ F1 F2 H' σ ρ ρ' fp' x d hpl S2 r2 et _ fun σ2 fp2 S3 => ?_
    exact ⟨Pn, _, F1, F2, ρ', fp2, _, hpl, S3, hb', ⟨fun F H σ ρ fp S h => ⟨F, ρ, fp, S, h⟩, L.rt, L.nx, fun F H σ ρ fp S h => ⟨F, ρ, fp, S, h⟩⟩⟩
  · have e : i = xs.length := by omega
    subst e
    rw [List.drop_length] at hr
    exact .inl ⟨k2 (Nat.le_refl _), L.nx F H σ ρ fp' S hr⟩
theorem Links.unbase {mr : Mode} {E : DEnds} {Dn : Ends} (S : StOk K B Pn Z0 F0 F H σ ρ fp) (L : Links K B Pn Z0 F0 mr E Dn) : Links K B Pn (prot B fp H) F mr E Dn :=
  ⟨fun F' H' σ' ρ' fp' T h => L.nx F' H' σ' ρ' fp' (S.unbase T) h, fun F' H' σ' ρ' fp' v d f T hv ap h => L.rt F' H' σ' ρ' fp' v d f (S.unbase T) hv (ap.unbase S.zp) h,
    fun F' H' σ' ρ' fp' T h => L.bk F' H' σ' ρ' fp' (S.unbase T) h, fun F' H' σ' ρ' fp' T h => L.ct F' H' σ' ρ' fp' (S.unbase T) h⟩
/-! a dict that may be read is locked -/
theorem isDct_er {u : HO} (h : isDct u) : erO u = u := by cases u <;> first | rfl | exact h.elim
theorem isDct_mut {u : HO} (h : isDct u) : Mut (some u) := by cases u <;> first | trivial | exact h.elim
theorem WF.lockd {a : Addr} {od : Obj} {u : HO} (w : WF B F H) (h : H a = some u) (hd : isDct u) (hB : a ∉ B) : WF B F (upd H a (.frz od u)) :=
  ⟨fun b x e => by
    obtain ⟨hb, y, ey, er⟩ := rdH_some (w.sub b x e)
    by_cases c : b = a
    · subst c
      rw [h] at ey; cases ey
      exact rdH_of hb upd_same (by rw [isDct_er hd] at er; exact er)
    · exact rdH_of hb (by rw [upd_ne c]; exact ey) er, fun b o x hb e => by
    by_cases c : b = a
    · subst c
      rw [upd_same] at e
      cases e; exact hd
    · rw [upd_ne c] at e; exact w.lock b o x hb e, w.bag.keep fun b hb x e => by rw [upd_ne (ne_mem hb hB)]; exact e⟩
theorem WF.unlockd {a : Addr} {od : Obj} {u : HO} (w : WF B F H) (h : H a = some (.frz od u)) (hd : isDct u) (hB : a ∉ B) : WF B F (upd H a u) :=
  ⟨fun b x e => by
    obtain ⟨hb, y, ey, er⟩ := rdH_some (w.sub b x e)
    by_cases c : b = a
    · subst c
      rw [h] at ey; cases ey
      exact rdH_of hb upd_same (by rw [isDct_er hd]; exact er)
    · exact rdH_of hb (by rw [upd_ne c]; exact ey) er, fun b o x hb e => by
    by_cases c : b = a
    · subst c
      rw [upd_same] at e
      cases e; exact hd.elim
    · rw [upd_ne c] at e; exact w.lock b o x hb e, w.bag.keep fun b hb x e => by rw [upd_ne (ne_mem hb hB)]; exact e⟩
theorem StOk.locked {a : Addr} {od : Obj} {u : HO} (S : StOk K B Pn Z0 F0 F H σ ρ fp) (h : H a = some u) (hd : isDct u) (hB : a ∉ B) (hf : a ∉ fp) : StOk K B Pn (prot B fp (upd H a (.frz od u))) F F (upd H a (.frz od u)) σ ρ fp :=
  ⟨S.wf.lockd h hd hB, S.own.mono (fun _ _ h => h) fun b hb o e => by rw [upd_ne (ne_mem hb hf)]; exact e, S.nd, fun b hb => ⟨(S.out b hb).1, (S.out b hb).2.1, prot_in (.inl hb)⟩, prot_same, fun b hb => prot_in (.inr hb), fun _ _ h => h, fun b o e => .inl e, S.pn⟩
theorem Val.unlockd {m : Mode} {a : Addr} {od : Obj} {u : HO} {v : V} {d : D} {f : List Addr} (h : H a = some (.frz od u)) (hd : isDct u) (hv : Val K m B F H v d f) : Val K m B F (upd H a u) v d f := by
  have own : ∀ {n f}, Own K F H n v d f → Own K F (upd H a u) n v d f := fun {n f} ho => Own.mono (fun _ _ h => h) (fun b hb o e => by
    obtain ⟨o', e', mu⟩ := ho.there b hb
    have : b ≠ a := fun z => by
      subst z
      rw [h] at e'; cases e'
      exact mu
    rw [upd_ne this]; exact e) ho
  cases m with
  | rd =>
    refine ⟨hv.1.mono fun b x e => ?_, hv.2⟩
    obtain ⟨hb, y, ey, er⟩ := rdH_some e
    by_cases c : b = a
    · subst c
      rw [h] at ey; cases ey
      exact rdH_of hb upd_same (by rw [isDct_er hd]; exact er)
    · exact rdH_of hb (by rw [upd_ne c]; exact ey) er
  | bor n =>
    obtain ⟨⟨f, ho, hB⟩, e⟩ := hv
    exact ⟨⟨f, own ho, hB⟩, e⟩
  | own n => exact own hv
theorem StOk.unlocked {a : Addr} {od : Obj} {u : HO} {F' H' : Hp} {σ' : L2.St} {ρ' : Env} {fp' : List Addr} (S : StOk K B Pn Z0 F0 F H σ ρ fp) (h : H a = some u) (hd : isDct u) (hB : a ∉ B) (hf : a ∉ fp)
    (T : StOk K B Pn (prot B fp (upd H a (.frz od u))) F F' H' σ' ρ' fp') : H' a = some (.frz od u) ∧ StOk K B Pn Z0 F0 F' (upd H' a u) σ' ρ' fp' := by
  have ha : H' a = some (.frz od u) := T.z a _ (by rw [prot_out hf hB]; exact upd_same)
  have keep : ∀ b o, b ∉ fp → b ∉ B → H b = some o → upd H' a u b = some o := fun b o h1 h2 e => by
    by_cases c : b = a
    · subst c; rw [h] at e; rw [upd_same]; exact e
    · rw [upd_ne c]
      exact T.z b o (by rw [prot_out h1 h2, upd_ne c]; exact e)
  have hf' : a ∉ fp' := fun z => by
    have := (T.out a z).2.2
    rw [prot_out hf hB, upd_same] at this; cases this
  refine ⟨ha, T.wf.unlockd ha hd hB, T.own.mono (fun _ _ h => h) fun b hb o e => by rw [upd_ne (ne_mem hb hf')]; exact e, T.nd, fun b hb => ⟨(T.out b hb).1, (T.out b hb).2.1, ?_⟩, fun b o e => ?_, S.zB, fun b o e => T.f b o (S.f b o e), fun b o e => ?_, T.pn⟩
  · cases q : Z0 b with
    | none => rfl
    | some o =>
      exfalso
      have h1 : b ∉ fp := fun h => by rw [(S.out b h).2.2] at q; cases q
      have h2 : b ∉ B := fun h => by rw [S.zB b h] at q; cases q
      have := (T.out b hb).2.2
      rw [prot_out h1 h2] at this
      by_cases c : b = a
      · subst c; exact hf' hb
      · rw [upd_ne c, S.z b o q] at this; cases this
  · have h1 : b ∉ fp := fun h => by rw [(S.out b h).2.2] at e; cases e
    have h2 : b ∉ B := fun h => by rw [S.zB b h] at e; cases e
    exact keep b o h1 h2 (S.z b o e)
  · rcases T.fr b o e with z | z | z
    · exact S.fr b o z
    · right; left
      cases q : Z0 b with
      | none => rfl
      | some o =>
        exfalso
        have h1 : b ∉ fp := fun h => by rw [(S.out b h).2.2] at q; cases q
        have h2 : b ∉ B := fun h => by rw [S.zB b h] at q; cases q
        rw [prot_out h1 h2] at z
        by_cases c : b = a
        · subst c; rw [upd_same] at z; cases z
        · rw [upd_ne c, S.z b o q] at z; cases z
    · exact .inr (.inr z)
theorem Links.lockd {X : Cx} {mr : Mode} {E : DEnds} {Dn : Ends} {a : Addr} {od : Obj} {u : HO} (S : StOk K B Pn Z0 F0 F H σ ρ fp) (h : H a = some u) (hd : isDct u) (hB : a ∉ B) (hf : a ∉ fp) (hn : ∀ o' u', X.H_0 a ≠ some (.frz o' u'))
    (L : Links K B Pn Z0 F0 mr E Dn) : Links K B Pn (prot B fp (upd H a (.frz od u))) F mr E (unlEnds X Dn) := by
  have key : ∀ {F' H' : Hp} {σ' : L2.St} {ρ' : Env} {fp' : List Addr}, StOk K B Pn (prot B fp (upd H a (.frz od u))) F F' H' σ' ρ' fp' → _ := fun T => S.unlocked (od := od) h hd hB hf T
  refine ⟨fun F' H' σ' ρ' fp' T hh => .inr ⟨a, od, u, (key T).1, hn, L.nx F' _ σ' ρ' fp' (key T).2 hh⟩, fun F' H' σ' ρ' fp' v d f T hv ap hh => .inr ⟨a, od, u, (key T).1, hn, L.rt F' _ σ' ρ' fp' v d f (key T).2 (hv.unlockd (key T).1 hd) ⟨fun b hb => ?_, ap.2⟩ hh⟩,
    fun F' H' σ' ρ' fp' T hh => .inr ⟨a, od, u, (key T).1, hn, L.bk F' _ σ' ρ' fp' (key T).2 hh⟩, fun F' H' σ' ρ' fp' T hh => .inr ⟨a, od, u, (key T).1, hn, L.ct F' _ σ' ρ' fp' (key T).2 hh⟩⟩
  obtain ⟨h1, h2, h3, h4⟩ := ap.1 b hb
  refine ⟨h1, h2, ?_, h4⟩
  cases q : Z0 b with
  | none => rfl
  | some o =>
    exfalso
    have g1 : b ∉ fp := fun h => by rw [(S.out b h).2.2] at q; cases q
    have g2 : b ∉ B := fun h => by rw [S.zB b h] at q; cases q
    rw [prot_out g1 g2] at h3
    by_cases c : b = a
    · subst c; rw [upd_same] at h3; cases h3
    · rw [upd_ne c, S.z b o q] at h3; cases h3
/-- the keys -/
def keyD : Key → D
  | .inl i => .int i
  | .inr s => .str s
def keysD : D → Option (List D)
  | .dK es => some (es.map fun e => keyD e.1)
  | .dT es => some (es.map fun e => .tup (e.1.map keyD))
  | _ => none
theorem keyD_R {G : Hp} : ∀ k : Key, R K G (kV k) (keyD k)
  | .inl i => .int i
  | .inr s => .str s
theorem keysD_RL {G : Hp} : ∀ ks : List Key, RL K G (ks.map kV) (ks.map keyD)
  | [] => .nil
  | k :: ks => .cons (keyD_R k) (keysD_RL ks)
theorem itD_keys {a : Addr} {o : Obj} {kvs : List (Key × V)} {es : List (Key × D)} {Z : Hp} (h : Z a = some (.frz o (.dK kvs))) (hk : kvs.map (·.1) = es.map (·.1)) : ItD K B Z F1 (Itk a o kvs) (es.map fun e => keyD e.1) := by
  intro i F H w sz sf
  have hl : es.length = kvs.length := by have := congrArg List.length hk; simpa using this.symm
  rw [List.length_map, hl]
  have hs := sz a _ h
  refine ⟨fun hi => ⟨⟨hs, hi⟩, fun x H' ⟨e, k, v, e1, e2⟩ => ?_⟩, fun hi => ⟨hs, hi⟩⟩
  subst e
  subst e2
  have e3 : (es.map (·.1))[i]? = some k := by rw [← hk, List.getElem?_map, e1]; rfl
  rw [List.getElem?_map] at e3
  cases q : es[i]? with
  | none => rw [q] at e3; cases e3
  | some p =>
    rw [q] at e3
    have e4 : p.1 = k := Option.some.inj e3
    exact ⟨F, keyD k, by rw [List.getElem?_map, q, ← e4]; rfl, Step.refl w, keyD_R k⟩
theorem itD_keysT {a : Addr} {o : Obj} {kvs : List (List Key × V)} {es : List (List Key × D)} {Z : Hp} (h : Z a = some (.frz o (.dT kvs))) (hk : kvs.map (·.1) = es.map (·.1)) : ItD K B Z F1 (Itkt a o kvs) (es.map fun e => .tup (e.1.map keyD)) := by
  intro i F H w sz sf
  have hl : es.length = kvs.length := by have := congrArg List.length hk; simpa using this.symm
  rw [List.length_map, hl]
  have hs := sz a _ h
  refine ⟨fun hi => ⟨⟨hs, hi⟩, fun x H' ⟨e, k, v, q, e1, e2, e3⟩ => ?_⟩, fun hi => ⟨hs, hi⟩⟩
  subst e
  subst e2
  have e4 : (es.map (·.1))[i]? = some k := by rw [← hk, List.getElem?_map, e1]; rfl
  rw [List.getElem?_map] at e4
  cases r : es[i]? with
  | none => rw [r] at e4; cases e4
  | some p =>
    rw [r] at e4
    have e5 : p.1 = k := Option.some.inj e4
    have hq : q ∉ B := fun z => by
      obtain ⟨o, e, nt⟩ := w.bag.there z
      rw [e3] at e; cases e
      exact nt trivial
    exact ⟨addT F (rdH B H'), .tup (k.map keyD), by rw [List.getElem?_map, r, ← e5]; rfl, (Step.refl w).addT, .tup (addT_tup w.sub (rdH_of hq e3 rfl)) (keysD_RL k)⟩
end
end GK

namespace GK
open PySem PySem.Spec PyProof.Rows L2

def ksOf (R : List D → Prop) (d : D) : Prop := ∃ ks, keysD d = some ks ∧ R ks
section
variable {X : Cx} {pin : Nat} {mr m : Mode} {gb : FS} {f : FE} {t : D → Env → Option Env} {pos p : Pos} {tg e e2 : Expr} {body : List Stmt}
/-- for k in d -/
theorem ds_forK (hp : PassesOwn (model X.prog X.w) X.A X.env X.xe) (hc : X.calm = true) (he : DE X B e (.own 0) f) (hg : DG X pin tg t) (hb : DSs X B body pin mr gb)
    (hs : ∀ x, foldedSetIterable e X.env x = pure x := by intro _; rfl) : DS X B (.For tg e body [] pos) pin mr (gFor (fun ρ R => f ρ (ksOf R)) t gb) := by
  obtain ⟨g, pg, kg⟩ := hg.ok
  refine PS.imp (ps_unl (ps_for hp hc (pi_keys (pe_lockA he)) pg hb hs)) fun Dn σ H ⟨Pn, Z0, F0, F, ρ, fp, E, hpl, S, hf, L⟩ => ⟨F, ρ, fp, _, S.base, hf, fun F1 H1 v d f1 s1 hv o1 n1 hR => ?_⟩
  have S1 := S.step s1 fun a h => (by cases h)
  obtain ⟨ks, ek, hR⟩ := hR
  have L0 : Links X.K B Pn (prot B fp H1) F1 mr E (unlEnds X Dn) :=
    ⟨fun F H σ ρ fp S h => .inl (L.nx F H σ ρ fp (S1.unbase S) h), fun F H σ ρ fp' v d f S hv ap h => .inl (L.rt F H σ ρ fp' v d f (S1.unbase S) hv (ap.unbase S1.zp) h),
      fun F H σ ρ fp S h => .inl (L.bk F H σ ρ fp (S1.unbase S) h), fun F H σ ρ fp S h => .inl (L.ct F H σ ρ fp (S1.unbase S) h)⟩
  cases d <;> try (cases ek; done)
  · obtain ⟨a, kvs, rfl, h1, hk, r⟩ := hv.1.dKI
    have ek' := Option.some.inj ek
    subst ek'
    have hfp : a ∉ fp := fun z => by rw [(S1.out a z).1] at h1; cases h1
    obtain ⟨hB, x, ex, er⟩ := rdH_some (S1.wf.sub a _ h1)
    have cs : x = .dK kvs ∨ ∃ od, x = .frz od (.dK kvs) := by
      cases x <;> first | (left; exact er) | skip
      rename_i od u
      right
      have er' : u = .dK kvs := er
      exact ⟨od, by rw [er']⟩
    rcases cs with rfl | ⟨od, rfl⟩
    · refine .inr ⟨a, _, ex, trivial, fun od hn => ⟨a, od, rfl, .inl ⟨kvs, upd_same, ?_⟩⟩⟩
      exact for_core hpl kg (S1.locked ex trivial hB hfp) (itD_keys (by rw [prot_out hfp hB]; exact upd_same) hk) hR (L.lockd S1 ex trivial hB hfp hn)
    · refine .inl ⟨a, od, rfl, .inl ⟨kvs, ex, ?_⟩⟩
      exact for_core hpl kg S1.rebase (itD_keys (by rw [prot_out hfp hB]; exact ex) hk) hR L0
  · obtain ⟨a, kvs, rfl, h1, hk, r⟩ := hv.1.dTI
    have ek' := Option.some.inj ek
    subst ek'
    have hfp : a ∉ fp := fun z => by rw [(S1.out a z).1] at h1; cases h1
    obtain ⟨hB, x, ex, er⟩ := rdH_some (S1.wf.sub a _ h1)
    have cs : x = .dT kvs ∨ ∃ od, x = .frz od (.dT kvs) := by
      cases x <;> first | (left; exact er) | skip
      rename_i od u
      right
      have er' : u = .dT kvs := er
      exact ⟨od, by rw [er']⟩
    rcases cs with rfl | ⟨od, rfl⟩
    · refine .inr ⟨a, _, ex, trivial, fun od hn => ⟨a, od, rfl, .inr ⟨kvs, upd_same, ?_⟩⟩⟩
      exact for_core hpl kg (S1.locked ex trivial hB hfp) (itD_keysT (by rw [prot_out hfp hB]; exact upd_same) hk) hR (L.lockd S1 ex trivial hB hfp hn)
    · refine .inl ⟨a, od, rfl, .inr ⟨kvs, ex, ?_⟩⟩
      exact for_core hpl kg S1.rebase (itD_keysT (by rw [prot_out hfp hB]; exact ex) hk) hR L0
end
/-! ### list comprehensions -/
/-- its turns -/
def compD (t : D → Env → Option Env) (fc : FT) (fe : FE) (ρ : Env) : List D → List D → (D → Prop) → Prop
  | [], acc, R => R (.lst acc)
  | x :: xs, acc, R => ∃ ρ', t x ρ = some ρ' ∧ fc ρ' fun b => if b = true then fe ρ' fun y => acc.length < sizeLine ∧ compD t fc fe ρ xs (acc ++ [y]) R else compD t fc fe ρ xs acc R
/-- the own names are wiped -/
def wipeE (ρ : Env) : List Nat → Env
  | [] => ρ
  | v :: vs => (wipeE ρ vs).set v none
section
variable {K : PySem.W.Frag} {B fp : List Addr} {Pn : List V} {Z0 F0 F H : Hp} {σ : L2.St} {ρ : Env}
theorem OwnE.unset : ∀ {σ : L2.St} {ρ : Env} {fp : List Addr} (i : Nat), OwnE K F H σ ρ fp → fp.Nodup → ∃ fp', OwnE K F H (σ.set i none) (ρ.set i none) fp' ∧ fp'.Nodup ∧ ∀ a ∈ fp', a ∈ fp
  | [], [], fp, i, h, nd => ⟨fp, h, nd, fun _ h => h⟩
  | x :: σ, none :: ρ, fp, 0, h, nd => ⟨fp, h, nd, fun _ h => h⟩
  | x :: σ, none :: ρ, fp, i + 1, h, nd => OwnE.unset (σ := σ) (ρ := ρ) i h nd
  | some w :: σ, some (k, e) :: ρ, fp, 0, ⟨f1, f2, ef, h1, t⟩, nd => by
    subst ef
    exact ⟨f2, t, (List.nodup_append.mp nd).2.1, fun a ha => List.mem_append_right _ ha⟩
  | some w :: σ, some (k, e) :: ρ, fp, i + 1, ⟨f1, f2, ef, h1, t⟩, nd => by
    subst ef
    obtain ⟨n1, n2, n3⟩ := List.nodup_append.mp nd
    obtain ⟨fp', o, nd', sub⟩ := OwnE.unset (σ := σ) (ρ := ρ) i t n2
    refine ⟨f1 ++ fp', ⟨f1, fp', rfl, h1, o⟩, List.nodup_append.mpr ⟨n1, nd', fun a ha b hb e => n3 a ha b (sub b hb) e⟩, fun a ha => ?_⟩
    rcases List.mem_append.mp ha with z | z
    · exact List.mem_append_left _ z
    · exact List.mem_append_right _ (sub a z)
  | _ :: _, [], _, _, h, _ => by cases h
  | [], _ :: _, _, _, h, _ => by cases h
  | none :: _, some _ :: _, _, _, h, _ => by cases h
theorem StOk.wipe (S : StOk K B [] Z0 F0 F H σ ρ fp) : ∀ vs : List Nat, ∃ fp', StOk K B [] Z0 F0 F H (L2.wipe σ vs) (wipeE ρ vs) fp' ∧ ∀ a ∈ fp', a ∈ fp
  | [] => ⟨fp, S, fun _ h => h⟩
  | v :: vs => by
    obtain ⟨fp', S', sub⟩ := S.wipe vs
    obtain ⟨fp2, o, nd, sub2⟩ := S'.own.unset v S'.nd
    exact ⟨fp2, ⟨S'.wf, o, nd, fun a ha => S'.out a (sub2 a ha), S'.z, S'.zB, S'.f, S'.fr, fun i v e => (by simp at e)⟩, fun a ha => sub a (sub2 a ha)⟩
end
section
variable {K : PySem.W.Frag} {B fp : List Addr} {Pn : List V} {Z0 F0 F F1 F' H H1 H' : Hp} {σ : L2.St} {ρ : Env} {n : Nat}
theorem Step.mutNew {A : List Addr} {a : Addr} {o : HO} (s : Step B A F H F' H') (h : H a = none) (hF : F' a = none) (hB : a ∉ B) (ho : erO o = o) : Step B A F H F' (upd H' a o) :=
  ⟨fun b u hb e => by rw [upd_ne (ne_of_none e h)]; exact s.same b u hb e, s.fs, s.fresh, s.wf.mut hF hB ho⟩
/-- the target in a comprehension's block -/
structure DGc (X : Cx) (tg : Expr) (vs : List Nat) (t : D → Env → Option Env) : Prop where
  ok : ∃ g : TG, (∀ (s : Shared) (H : Hp) (scope : Scope) (C : Addr) (cl : List (Str × Addr)) (fp : List Addr), (∀ v ∈ vs, ∃ x, X.N[v]? = some x ∧ ∀ C cl, (compEnvC scope cl C X.env).scope.names.lookup x = some .local) → PG (X.blk s H scope (compEnvC scope cl C X.env) fp) tg g) ∧
    ∀ (B : List Addr) (F H : Hp) (σ : L2.St) (ρ ρ' : Env) (fp : List Addr) (v : V) (d : D), StOk X.K B [] noH noH F H (L2.wipe σ vs) ρ fp → R X.K F v d → t d ρ = some ρ' →
      ∀ Q : L2.St → Hp → Prop, (∀ σ' fp', StOk X.K B [] noH noH F H σ' ρ' fp' → L2.wipe σ' vs = L2.wipe σ vs → Q σ' H) → g v (L2.wipe σ vs) H Q
structure CompW (K : PySem.W.Frag) (B : List Addr) (n : Nat) (F1 H1 : Hp) (Da : Addr) (F H : Hp) (va : List V) (da : List D) (ga : List Addr) : Prop where
  s : Step B [] F1 H1 F H
  at_ : H Da = some (.lst va)
  own : OwnL (Own K F H n) va da ga
  out : ∀ a ∈ ga, F a = none ∧ a ∉ B ∧ H1 a = none
  nd : (Da :: ga).Nodup
  FD : F Da = none
theorem CompW.step {Da : Addr} {va : List V} {da : List D} {ga : List Addr} (hD : H1 Da = none) (hB : Da ∉ B) (w : CompW K B n F1 H1 Da F H va da ga) (s : Step B [] F H F' H') : CompW K B n F1 H1 Da F' H' va da ga :=
  ⟨w.s.trans s fun a h => (by cases h), s.same Da _ hB w.at_, w.own.imp fun v d f hf h => Own.mono s.fs (fun a ha o e => s.same a o (w.out a (hf a ha)).2.1 e) h, fun a ha => by
    obtain ⟨o, e, mu⟩ := w.own.there (fun v d f q => Own.there q) a ha
    exact ⟨s.out e mu (w.out a ha).2.1 (w.out a ha).1 (fun z => (by cases z)), (w.out a ha).2⟩, w.nd, s.out w.at_ trivial hB w.FD (fun z => (by cases z))⟩
theorem comp_core {X : Cx} {t : D → Env → Option Env} {fc : FT} {fe : FE} {g : TG} {J : It} {xs : List D} {R : D → Prop} {Q : VK} {Z : Hp} {Da : Addr} {vs : List Nat} {ρw : Env}
    (kg : ∀ (B : List Addr) (F H : Hp) (σ : L2.St) (ρ ρ' : Env) (fp : List Addr) (v : V) (d : D), StOk X.K B [] noH noH F H (L2.wipe σ vs) ρ fp → GK.R X.K F v d → t d ρ = some ρ' →
      ∀ Q : L2.St → Hp → Prop, (∀ σ' fp', StOk X.K B [] noH noH F H σ' ρ' fp' → L2.wipe σ' vs = L2.wipe σ vs → Q σ' H) → g v (L2.wipe σ vs) H Q)
    (S : StOk X.K B [] noH noH F1 H1 (L2.wipe σ vs) ρw fp) (it : ItD X.K B Z F1 J xs) (hZ : ∀ a o, Z a = some o → a ∉ B ∧ H1 a = some o) (hD : H1 Da = none) (hx : compD t fc fe ρw xs [] R)
    (fin : ∀ F H va da ga, CompW X.K B n F1 H1 Da F H va da ga → R (.lst da) → Q (.ref Da) H) :
    ∃ W : Nat → Nat → Hp → Prop, (∃ m, W 0 m (upd H1 Da (.lst []))) ∧ ∀ i m H, W i m H → (J.stop i H ∧ Q (.ref Da) H) ∨ (J.go i H ∧ ∃ Nx : Hp → Prop, (∀ H', Nx H' → ∃ m', m' < m ∧ W (i + 1) m' H') ∧ ∀ x H', J.yld i H x H' →
      g x (L2.wipe σ vs) H' fun σ2 H2 => L2.wipe σ2 vs = L2.wipe σ vs ∧ tDT X.K B fc σ2 H2 fun b H3 => if b = true then tD X.K B (.own n) fe σ2 H3 fun y H4 => ∃ acc, H4 Da = some (.lst acc) ∧ acc.length < sizeLine ∧ Nx (upd H4 Da (.lst (acc ++ [y]))) else Nx H3) := by
  have hB : Da ∉ B := S.wf.notB hD
  have hF : F1 Da = none := F_none S.wf hD
  refine ⟨fun i m H => ∃ F va da ga, CompW X.K B n F1 H1 Da F H va da ga ∧ m = xs.length - i ∧ i ≤ xs.length ∧ compD t fc fe ρw (xs.drop i) da R,
    ⟨xs.length, F1, [], [], [], ⟨(Step.refl S.wf).mutNew hD hF hB rfl, upd_same, rfl, fun a h => (by cases h), by simp, hF⟩, rfl, Nat.zero_le _, hx⟩, ?_⟩
  rintro i m H ⟨F, va, da, ga, w, rfl, hi, hr⟩
  obtain ⟨k1, k2⟩ := it i F H w.s.wf (fun a o e => w.s.same a o (hZ a o e).1 (hZ a o e).2) w.s.fs
  by_cases hlt : i < xs.length
  · refine .inr ⟨(k1 hlt).1, fun H' => ∃ F va da ga, CompW X.K B n F1 H1 Da F H' va da ga ∧ compD t fc fe ρw (xs.drop (i + 1)) da R, fun H' ⟨F, va, da, ga, w, h⟩ => ⟨xs.length - (i + 1), by omega, F, va, da, ga, w, rfl, hlt, h⟩, fun x H' y => ?_⟩
    obtain ⟨F2, d, ed, s2, r2⟩ := (k1 hlt).2 x H' y
    have w2 := w.step hD hB s2
    rw [List.drop_eq_getElem_cons hlt] at hr
    have ed' : xs[i] = d := Option.some.inj ((List.getElem?_eq_getElem hlt).symm.trans ed)
    rw [ed'] at hr
    obtain ⟨ρ', et, hb'⟩ := hr
    refine kg B F2 H' σ ρw ρ' fp x d (S.step w2.s fun a h => (by cases h)) r2 et _ fun σ2 fp2 S3 hw => ⟨hw, ?_⟩
    refine ⟨F2, ρ', fp2, _, S3, hb', fun F3 H3 b s3 hb => ?_⟩
    have w3 := w2.step hD hB s3
    cases b with
    | false =>
      dsimp only at hb ⊢
      rw [if_neg Bool.false_ne_true] at hb ⊢
      exact ⟨F3, va, da, ga, w3, hb⟩
    | true =>
      dsimp only at hb ⊢
      rw [if_pos rfl] at hb ⊢
      refine ⟨F3, ρ', fp2, _, S3.step s3 (fun a h => by cases h), hb, fun F4 H4 yv yd fy s4 hy oy ny ⟨hz, hk⟩ => ?_⟩
      have w4 := w3.step hD hB s4
      have hl : va.length = da.length := w.own.len
      have fresh : ∀ a ∈ fy, H3 a = none := fun a ha => (oy a ha).1.elim (fun z => by cases z) id
      have hDy : Da ∉ fy := fun z => by
        have := fresh Da z
        rw [w3.at_] at this; cases this
      have hDg : Da ∉ ga := (List.nodup_cons.mp w.nd).1
      refine ⟨va, w4.at_, by rw [hl]; exact hz, F4, va ++ [yv], da ++ [yd], ga ++ fy, ⟨w4.s.mutNew hD w4.FD hB rfl, upd_same, (w4.own.upd hDg).append (OwnL.one (Own.upd (show Own X.K F4 H4 n yv yd fy from hy) hDy)), fun a ha => ?_, ?_, w4.FD⟩, hk⟩
      · rcases List.mem_append.mp ha with z | z
        · exact w4.out a z
        · exact ⟨(oy a z).2.1, (oy a z).2.2, w3.s.new (oy a z).2.2 (fresh a z)⟩
      · refine List.nodup_cons.mpr ⟨fun z => (List.mem_append.mp z).elim hDg hDy, List.nodup_append.mpr ⟨(List.nodup_cons.mp w.nd).2, ny, fun a ha b hb e => ?_⟩⟩
        subst e
        obtain ⟨o, e, _⟩ := w3.own.there (fun v d f q => Own.there q) a ha
        rw [fresh a hb] at e; cases e
  · have e : i = xs.length := by omega
    subst e
    rw [List.drop_length] at hr
    exact .inl ⟨k2 (Nat.le_refl _), fin F H va da ga w hr⟩
theorem CompW.post {A : List Addr} {R : D → Prop} {Q : VK} {Da : Addr} {va : List V} {da : List D} {ga : List Addr} (hD : H1 Da = none) (hB : Da ∉ B) (w : CompW K B n F1 H1 Da F H va da ga) (hR : R (.lst da)) (k : Post K B A F1 H1 (.own (n + 1)) R Q) : Q (.ref Da) H :=
  k F H _ (.lst da) (Da :: ga) (w.s.weak fun a h => (by cases h)) ⟨Da, va, ga, rfl, w.at_, rfl, w.own⟩ (fun a ha => by
    rcases List.mem_cons.mp ha with z | z
    · rw [z]; exact ⟨.inr hD, w.FD, hB⟩
    · exact ⟨.inr (w.out a z).2.2, (w.out a z).1, (w.out a z).2.1⟩) w.nd hR
end
section
variable {X : Cx} {elt tg iter : Expr} {ifs : List Expr} {scope : Scope} {own : List (Str × Nat)} {pos : Pos} {fi : FI} {f fe : FE} {fc : FT} {t : D → Env → Option Env} {n : Nat}
def gComp (fi : FI) (t : D → Env → Option Env) (fc : FT) (fe : FE) (vs : List Nat) : FE := fun ρ R => fi ρ fun xs => compD t fc fe (wipeE ρ vs) xs [] R
abbrev DTs (X : Cx) (B : List Addr) (ifs : List Expr) (f : FT) : Prop := PTs X ifs (tDT X.K B f)
theorem dts_nil : DTs X B [] (fun _ R => R true) := ⟨fun pins s σ H Q I ⟨F, ρ, fp, R, S, hf, k⟩ => pts_nil.run pins s σ H Q I (k F H true (Step.refl S.wf) hf)⟩
theorem dts_one {c : Expr} (h : DT X B c fc) : DTs X B [c] fc := pts_one h
theorem tD_lc {wi : TI} {g : TG} {σ : L2.St} {H : Hp} {Q : VK} {vs : List Nat} (hwi : ∀ σ H R, tDI X.K B fi σ H R → wi σ H R)
    (kg : ∀ (B : List Addr) (F H : Hp) (σ : L2.St) (ρ ρ' : Env) (fp : List Addr) (v : V) (d : D), StOk X.K B [] noH noH F H (L2.wipe σ vs) ρ fp → R X.K F v d → t d ρ = some ρ' →
      ∀ Q : L2.St → Hp → Prop, (∀ σ' fp', StOk X.K B [] noH noH F H σ' ρ' fp' → L2.wipe σ' vs = L2.wipe σ vs → Q σ' H) → g v (L2.wipe σ vs) H Q)
    (h : tD X.K B (.own (n + 1)) (gComp fi t fc fe vs) σ H Q) : tLc wi g (tDT X.K B fc) (tD X.K B (.own n) fe) vs σ H Q := by
  obtain ⟨F, ρ, fp, R, S, hf, k⟩ := h
  refine hwi σ H _ ⟨F, ρ, fp, _, S, hf, fun J F1 H1 xs s1 it hx Da hD => ?_⟩
  have S1 := S.step s1 fun a h => (by cases h)
  obtain ⟨fpw, Sw, _⟩ := S1.wipe vs
  refine comp_core (n := n) kg Sw it (fun a o e => ?_) hD hx fun F H va da ga w hR => w.post hD (S1.wf.notB hD) hR (k.after s1 (A1 := []) fun a h => (by cases h))
  by_cases c : a ∈ fp ∨ a ∈ B
  · rw [prot_in c] at e; cases e
  · unfold prot at e
    rw [if_neg c] at e
    exact ⟨fun z => c (.inr z), e⟩
theorem de_lc (n : Nat) (hc : X.calm = true) (hN : X.N.Nodup) (hi : DI X B tg iter fi) (ok : BlkOk X.N X.env.scope scope own) (hg : DGc X tg (own.map (·.2)) t) (hol : ∀ v ∈ own.map (·.2), ∃ x, X.N[v]? = some x ∧ ∀ C cl, (compEnvC scope cl C X.env).scope.names.lookup x = some .local)
    (ht : ∀ (s : Shared) (H : Hp) (C : Addr) (cl : List (Str × Addr)) (fp : List Addr), DTs (X.blk s H scope (compEnvC scope cl C X.env) fp) B ifs fc)
    (he : ∀ (s : Shared) (H : Hp) (C : Addr) (cl : List (Str × Addr)) (fp : List Addr), DE (X.blk s H scope (compEnvC scope cl C X.env) fp) B elt (.own n) fe) (hs : ∀ x, foldedSetIterable iter X.env x = pure x := by intro _; rfl) :
    DE X B (.ListComp elt [⟨tg, iter, ifs, 0⟩] scope pos) (.own (n + 1)) (gComp fi t fc fe (own.map (·.2))) := by
  obtain ⟨g, pg, kg⟩ := hg.ok
  exact PE.imp (pe_lc hc hN hi ok (fun s H C cl fp => pg s H scope C cl fp hol) ht he hs) fun σ H Q q => tD_lc (fun _ _ _ h => h) kg q
/-- y = [..] on one line, y a local -/
theorem ds_setLc (i n : Nat) {pin : Nat} {mr : Mode} {y : Str} {py spos : Pos} (hc : X.calm = true) (hN : X.N.Nodup) (hy : X.N[i]? = some y) (hyl : X.env.scope.names.lookup y = some .local) (hp : pin ≤ i)
    (hsw : swapsWith (.ListComp elt [⟨tg, iter, ifs, 0⟩] scope pos) (some (.Name y py)) spos.line X.env = pure true) (hi : DI X B tg iter fi) (ok : BlkOk X.N X.env.scope scope own) (hg : DGc X tg (own.map (·.2)) t) (hol : ∀ v ∈ own.map (·.2), ∃ x, X.N[v]? = some x ∧ ∀ C cl, (compEnvC scope cl C X.env).scope.names.lookup x = some .local)
    (ht : ∀ (s : Shared) (H : Hp) (C : Addr) (cl : List (Str × Addr)) (fp : List Addr), DTs (X.blk s H scope (compEnvC scope cl C X.env) fp) B ifs fc)
    (he : ∀ (s : Shared) (H : Hp) (C : Addr) (cl : List (Str × Addr)) (fp : List Addr), DE (X.blk s H scope (compEnvC scope cl C X.env) fp) B elt (.own n) fe) (hs : ∀ x, foldedSetIterable iter X.env x = pure x := by intro _; rfl) :
    DS X B (.Assign [.Name y py] (.ListComp elt [⟨tg, iter, ifs, 0⟩] scope pos) spos) pin mr (fun E ρ => gComp fi t fc fe (own.map (·.2)) ρ fun d => i < ρ.length ∧ E.nx (ρ.set i (some (n + 1, d)))) := by
  obtain ⟨g, pg, kg⟩ := hg.ok
  refine PS.imp (ps_setLc (tt := tDT X.K B fc) (te := tD X.K B (.own n) fe) hc hN hy hyl hsw hi ok (fun s H C cl fp => pg s H scope C cl fp hol) ht he hs) fun Dn σ H ⟨Pn, Z0, F0, F, ρ, fp, E, hpl, S, hf, L⟩ => ?_
  refine tD_lc (Q := fun x H1 => Dn.nx (σ.set i (some x)) H1) (fun _ _ _ h => h) kg (tDM_of (pin := pin) (K := X.K) ⟨Pn, Z0, F0, F, ρ, fp, fun d ρ' => i < ρ'.length ∧ E.nx (ρ'.set i (some (n + 1, d))), hpl, S, hf, fun F' H' ρ' fp' v d f' S' hv ap hR => ?_⟩)
  obtain ⟨fp2, S2⟩ := S'.set hv ap hR.1 (by omega)
  exact L.nx F' H' _ _ fp2 S2 hR.2
theorem dgc_name {x : Str} {p : Pos} (i : Nat) (hN : X.N.Nodup) (hi : X.N[i]? = some x) : DGc X (.Name x p) [i] (tgN i) :=
  ⟨gName i, fun s H scope C cl fp hl => by
    obtain ⟨y, e, hy⟩ := hl i (by simp)
    rw [hi] at e; cases e
    exact pg_name hN hi (.inl (hy C cl)) (.inr (hy C cl)), fun B F H σ ρ ρ' fp v d S r e Q k => by
    unfold tgN at e
    split at e
    · rename_i hi'
      cases e
      obtain ⟨fp', S'⟩ := S.set (n := 0) (f := []) (i := i) ⟨r, rfl⟩ .nil hi' (Nat.zero_le _)
      refine k _ fp' S' ?_
      show ((σ.set i none).set i (some v)).set i none = σ.set i none
      rw [List.set_set, List.set_set]
    · cases e⟩
end
end GK

namespace GK
open PySem PySem.Spec PyProof.Rows L2

/-! ### comprehensions over a dict: it is locked meanwhile -/
/-- H' is H, or H with a dict locked -/
def Lk (X : Cx) (B : List Addr) (H H' : Hp) : Prop := H' = H ∨ ∃ a od u, H a = some u ∧ isDct u ∧ a ∉ B ∧ H' = upd H a (.frz od u) ∧ ∀ o' u', X.H_0 a ≠ some (.frz o' u')
section
variable {K : PySem.W.Frag} {B A fp : List Addr} {F F1 F' H H1 H' : Hp} {σ : L2.St} {ρ : Env} {n : Nat}
theorem Step.unlockd {a : Addr} {od : Obj} {u : HO} (h : H1 a = some u) (hd : isDct u) (hB : a ∉ B) (s : Step B A F1 (upd H1 a (.frz od u)) F H) : Step B A F1 H1 F (upd H a u) := by
  have ha : H a = some (.frz od u) := s.same a _ hB upd_same
  refine ⟨fun b o hb e => ?_, s.fs, fun b w e => ?_, s.wf.unlockd ha hd hB⟩
  · by_cases c : b = a
    · subst c; rw [h] at e; cases e; exact upd_same
    · rw [upd_ne c]; exact s.same b o hb (by rw [upd_ne c]; exact e)
  · rcases s.fresh b w e with z | z | z | z
    · exact .inl z
    · right; left
      by_cases c : b = a
      · subst c; rw [upd_same] at z; cases z
      · rw [upd_ne c] at z; exact z
    · exact .inr (.inr (.inl z))
    · exact .inr (.inr (.inr z))
theorem CompW.unlockd {Da a : Addr} {od : Obj} {u : HO} {va : List V} {da : List D} {ga : List Addr} (h : H1 a = some u) (hd : isDct u) (hB : a ∉ B) (hD : H1 Da = none) (w : CompW K B n F1 (upd H1 a (.frz od u)) Da F H va da ga) : CompW K B n F1 H1 Da F (upd H a u) va da ga := by
  have hne : Da ≠ a := fun z => by rw [z, h] at hD; cases hD
  have hga : a ∉ ga := fun z => by
    have := (w.out a z).2.2
    rw [upd_same] at this; cases this
  refine ⟨w.s.unlockd h hd hB, by rw [upd_ne hne]; exact w.at_, w.own.upd hga, fun b hb => ?_, w.nd, w.FD⟩
  obtain ⟨q1, q2, q3⟩ := w.out b hb
  have c : b ≠ a := fun z => by subst z; exact hga hb
  exact ⟨q1, q2, by rw [upd_ne c] at q3; exact q3⟩
theorem unl_fin {X : Cx} {v : V} {Q : VK} (l : Lk X B H1 H') (s : Step B [] F1 H' F H) (k1 : H' = H1 → Q v H) (k2 : ∀ a od u, H1 a = some u → isDct u → a ∉ B → H' = upd H1 a (.frz od u) → Q v (upd H a u)) : unlQ X Q v H := by
  rcases l with e | ⟨a, od, u, h1, h2, h3, e, h4⟩
  · exact .inl (k1 e)
  · subst e
    exact .inr ⟨a, od, u, s.same a _ h3 upd_same, h4, k2 a od u h1 h2 h3 rfl⟩
/-- an iterator over the keys of a dict that may be read; the dict is locked -/
theorem keys_ti {X : Cx} {f : FE} {Rx : List D → Prop} {Rt : It → Hp → Prop} (S : StOk X.K B [] noH noH F H σ ρ fp) (hf : f ρ (ksOf Rx))
    (k : ∀ J F1 H1 H1' xs, Step B [] F H F1 H1 → Rx xs → StOk X.K B [] noH noH F1 H1' σ ρ fp → Lk X B H1 H1' → (∀ a, H1' a = none ↔ H1 a = none) → ItD X.K B (prot B fp H1') F1 J xs → Rt J H1') :
    iKeys (fun σ H Q => tD X.K B (.own 0) f σ H fun x H1 => Q x H1 ∨ ∃ d u, H1 d = some u ∧ Mut (some u) ∧ ∀ od, (∀ o' u', X.H_0 d ≠ some (.frz o' u')) → Q x (upd H1 d (.frz od u))) σ H Rt := by
  refine ⟨F, ρ, fp, _, S, hf, fun F1 H1 v d f1 s1 hv o1 n1 hR => ?_⟩
  have S1 := S.step s1 fun a h => (by cases h)
  obtain ⟨ks, ek, hR⟩ := hR
  have hno : ∀ {a : Addr} {od : Obj} {u : HO}, H1 a = some u → ∀ b, upd H1 a (.frz od u) b = none ↔ H1 b = none := fun {a od u} h b => by
    by_cases c : b = a
    · subst c; rw [upd_same, h]; exact ⟨fun z => (by cases z), fun z => (by cases z)⟩
    · rw [upd_ne c]
  have lockS : ∀ {a : Addr} {od : Obj} {u : HO}, H1 a = some u → isDct u → a ∉ B → a ∉ fp → StOk X.K B [] noH noH F1 (upd H1 a (.frz od u)) σ ρ fp := fun h hd hB hfp => (S1.locked h hd hB hfp).base
  cases d <;> try (cases ek; done)
  · obtain ⟨a, kvs, rfl, h1, hk, r⟩ := hv.1.dKI
    have ek' := Option.some.inj ek
    subst ek'
    have hfp : a ∉ fp := fun z => by rw [(S1.out a z).1] at h1; cases h1
    obtain ⟨hB, x, ex, er⟩ := rdH_some (S1.wf.sub a _ h1)
    have cs : x = .dK kvs ∨ ∃ od, x = .frz od (.dK kvs) := by
      cases x <;> first | (left; exact er) | skip
      rename_i od u
      right
      have er' : u = .dK kvs := er
      exact ⟨od, by rw [er']⟩
    rcases cs with rfl | ⟨od, rfl⟩
    · exact .inr ⟨a, _, ex, trivial, fun od hn => ⟨a, od, rfl, .inl ⟨kvs, upd_same, k _ F1 H1 _ _ s1 hR (lockS ex trivial hB hfp) (.inr ⟨a, od, _, ex, trivial, hB, rfl, hn⟩) (hno ex) (itD_keys (by rw [prot_out hfp hB]; exact upd_same) hk)⟩⟩⟩
    · exact .inl ⟨a, od, rfl, .inl ⟨kvs, ex, k _ F1 H1 _ _ s1 hR S1 (.inl rfl) (fun _ => .rfl) (itD_keys (by rw [prot_out hfp hB]; exact ex) hk)⟩⟩
  · obtain ⟨a, kvs, rfl, h1, hk, r⟩ := hv.1.dTI
    have ek' := Option.some.inj ek
    subst ek'
    have hfp : a ∉ fp := fun z => by rw [(S1.out a z).1] at h1; cases h1
    obtain ⟨hB, x, ex, er⟩ := rdH_some (S1.wf.sub a _ h1)
    have cs : x = .dT kvs ∨ ∃ od, x = .frz od (.dT kvs) := by
      cases x <;> first | (left; exact er) | skip
      rename_i od u
      right
      have er' : u = .dT kvs := er
      exact ⟨od, by rw [er']⟩
    rcases cs with rfl | ⟨od, rfl⟩
    · exact .inr ⟨a, _, ex, trivial, fun od hn => ⟨a, od, rfl, .inr ⟨kvs, upd_same, k _ F1 H1 _ _ s1 hR (lockS ex trivial hB hfp) (.inr ⟨a, od, _, ex, trivial, hB, rfl, hn⟩) (hno ex) (itD_keysT (by rw [prot_out hfp hB]; exact upd_same) hk)⟩⟩⟩
    · exact .inl ⟨a, od, rfl, .inr ⟨kvs, ex, k _ F1 H1 _ _ s1 hR S1 (.inl rfl) (fun _ => .rfl) (itD_keysT (by rw [prot_out hfp hB]; exact ex) hk)⟩⟩
theorem prot_sub {a : Addr} {o : HO} (e : prot B fp H a = some o) : a ∉ B ∧ H a = some o := by
  by_cases c : a ∈ fp ∨ a ∈ B
  · rw [prot_in c] at e; cases e
  · unfold prot at e
    rw [if_neg c] at e
    exact ⟨fun z => c (.inr z), e⟩
end
section
variable {X : Cx} {elt tg iter : Expr} {ifs : List Expr} {scope : Scope} {own : List (Str × Nat)} {pos : Pos} {f fe : FE} {fc : FT} {t : D → Env → Option Env} {n : Nat}
theorem tD_lcK {g : TG} {σ : L2.St} {H : Hp} {Q : VK} {vs : List Nat}
    (kg : ∀ (B : List Addr) (F H : Hp) (σ : L2.St) (ρ ρ' : Env) (fp : List Addr) (v : V) (d : D), StOk X.K B [] noH noH F H (L2.wipe σ vs) ρ fp → R X.K F v d → t d ρ = some ρ' →
      ∀ Q : L2.St → Hp → Prop, (∀ σ' fp', StOk X.K B [] noH noH F H σ' ρ' fp' → L2.wipe σ' vs = L2.wipe σ vs → Q σ' H) → g v (L2.wipe σ vs) H Q)
    (h : tD X.K B (.own (n + 1)) (gComp (fun ρ R => f ρ (ksOf R)) t fc fe vs) σ H Q) :
    tLc (iKeys (fun σ H Q => tD X.K B (.own 0) f σ H fun x H1 => Q x H1 ∨ ∃ d u, H1 d = some u ∧ Mut (some u) ∧ ∀ od, (∀ o' u', X.H_0 d ≠ some (.frz o' u')) → Q x (upd H1 d (.frz od u)))) g (tDT X.K B fc) (tD X.K B (.own n) fe) vs σ H (unlQ X Q) := by
  obtain ⟨F, ρ, fp, R, S, hf, k⟩ := h
  refine keys_ti (Rx := fun xs => compD t fc fe (wipeE ρ vs) xs [] R) S hf fun J F1 H1 H1' xs s1 hx S1 lk hno it Da hD => ?_
  obtain ⟨fpw, Sw, _⟩ := S1.wipe vs
  refine comp_core (n := n) kg Sw it (fun a o e => prot_sub e) hD hx fun F H va da ga w hR => ?_
  have hD1 : H1 Da = none := (hno Da).mp hD
  have hB : Da ∉ B := S1.wf.notB hD
  refine unl_fin lk w.s (fun e => ?_) fun a od u h1 h2 h3 e => ?_
  · subst e
    exact w.post hD1 hB hR (k.after s1 (A1 := []) fun a h => (by cases h))
  · subst e
    exact (w.unlockd h1 h2 h3 hD1).post hD1 hB hR (k.after s1 (A1 := []) fun a h => (by cases h))
theorem de_lcK (n : Nat) (hc : X.calm = true) (hN : X.N.Nodup) (hi : DE X B iter (.own 0) f) (ok : BlkOk X.N X.env.scope scope own) (hg : DGc X tg (own.map (·.2)) t) (hol : ∀ v ∈ own.map (·.2), ∃ x, X.N[v]? = some x ∧ ∀ C cl, (compEnvC scope cl C X.env).scope.names.lookup x = some .local)
    (ht : ∀ (s : Shared) (H : Hp) (C : Addr) (cl : List (Str × Addr)) (fp : List Addr), DTs (X.blk s H scope (compEnvC scope cl C X.env) fp) B ifs fc)
    (he : ∀ (s : Shared) (H : Hp) (C : Addr) (cl : List (Str × Addr)) (fp : List Addr), DE (X.blk s H scope (compEnvC scope cl C X.env) fp) B elt (.own n) fe) (hs : ∀ x, foldedSetIterable iter X.env x = pure x := by intro _; rfl) :
    DE X B (.ListComp elt [⟨tg, iter, ifs, 0⟩] scope pos) (.own (n + 1)) (gComp (fun ρ R => f ρ (ksOf R)) t fc fe (own.map (·.2))) := by
  obtain ⟨g, pg, kg⟩ := hg.ok
  exact PE.imp (pe_unl (pe_lc hc hN (pi_keys (pe_lockA hi)) ok (fun s H C cl fp => pg s H scope C cl fp hol) ht he hs)) fun σ H Q q => tD_lcK kg q
theorem ds_setLcK (i n : Nat) {pin : Nat} {mr : Mode} {y : Str} {py spos : Pos} (hc : X.calm = true) (hN : X.N.Nodup) (hy : X.N[i]? = some y) (hyl : X.env.scope.names.lookup y = some .local) (hp : pin ≤ i)
    (hsw : swapsWith (.ListComp elt [⟨tg, iter, ifs, 0⟩] scope pos) (some (.Name y py)) spos.line X.env = pure true) (hi : DE X B iter (.own 0) f) (ok : BlkOk X.N X.env.scope scope own) (hg : DGc X tg (own.map (·.2)) t) (hol : ∀ v ∈ own.map (·.2), ∃ x, X.N[v]? = some x ∧ ∀ C cl, (compEnvC scope cl C X.env).scope.names.lookup x = some .local)
    (ht : ∀ (s : Shared) (H : Hp) (C : Addr) (cl : List (Str × Addr)) (fp : List Addr), DTs (X.blk s H scope (compEnvC scope cl C X.env) fp) B ifs fc)
    (he : ∀ (s : Shared) (H : Hp) (C : Addr) (cl : List (Str × Addr)) (fp : List Addr), DE (X.blk s H scope (compEnvC scope cl C X.env) fp) B elt (.own n) fe) (hs : ∀ x, foldedSetIterable iter X.env x = pure x := by intro _; rfl) :
    DS X B (.Assign [.Name y py] (.ListComp elt [⟨tg, iter, ifs, 0⟩] scope pos) spos) pin mr (fun E ρ => gComp (fun ρ R => f ρ (ksOf R)) t fc fe (own.map (·.2)) ρ fun d => i < ρ.length ∧ E.nx (ρ.set i (some (n + 1, d)))) := by
  obtain ⟨g, pg, kg⟩ := hg.ok
  refine PS.imp (ps_unl (ps_setLc (tt := tDT X.K B fc) (te := tD X.K B (.own n) fe) hc hN hy hyl hsw (pi_keys (pe_lockA hi)) ok (fun s H C cl fp => pg s H scope C cl fp hol) ht he hs)) fun Dn σ H ⟨Pn, Z0, F0, F, ρ, fp, E, hpl, S, hf, L⟩ => ?_
  refine tD_lcK (Q := fun x H1 => Dn.nx (σ.set i (some x)) H1) kg (tDM_of (pin := pin) (K := X.K) ⟨Pn, Z0, F0, F, ρ, fp, fun d ρ' => i < ρ'.length ∧ E.nx (ρ'.set i (some (n + 1, d))), hpl, S, hf, fun F' H' ρ' fp' v d f' S' hv ap hR => ?_⟩)
  obtain ⟨fp2, S2⟩ := S'.set hv ap hR.1 (by omega)
  exact L.nx F' H' _ _ fp2 S2 hR.2
end
end GK

namespace GK
open PySem PySem.Spec PyProof.Rows L2

/-! ### dict comprehensions, keys of either kind -/
section
variable {X : Cx} {pins : List (Addr × Obj)} {σ : L2.St} {H : Hp} {s : Shared}
/-- what a comprehension puts -/
theorem put_comp {E : Value → Shared → Prop} {Q : Unit → Shared → Prop} {a : Addr} {y v : V} {u r : Value} {H' : Hp} (hu : X.A.units + 1 < cLine) (I : L2.Inv X pins σ H s) (g : DPut H a y v H') (ry : RelV y u) (rv : RelV v r) (h : ∀ s', L2.Inv X pins σ H' s' → Q () s') :
    wpAny (model X.prog X.w) X.A (dictSet a u r) Q E s := by
  rcases g with ⟨kvs, k, e, rfl, hl, rfl⟩ | ⟨kvs, k, b, e, rfl, eb, hl, rfl⟩
  · exact d_dictSet I e hl ry rv h
  · obtain rfl : u = Value.ref b := ry
    obtain ⟨z, nd, ws, rel, at_⟩ := dt_of I.hok e
    have le : (putK kvs k v).length ≤ sizeLine := Nat.le_trans (length_putK kvs k v) hl
    refine wpAny_dictSet_heap (hsz := by rw [← Paired.length rel]; exact z) (show X.A.units < cLine from Nat.lt_of_succ_lt hu) (key_of I.hok eb) at_ fun h2 at2 same => ?_
    obtain ⟨q, es, ep, k1, k2, k3, k4, _, k5⟩ := at2
    refine h _ (d_write I (by rw [e]; trivial) same ⟨q, k1⟩ ⟨le, nd, _, (rel.put k eb rv).keeps fun c ys ec => ?_, q, es, ep, k1, k2, k3, k4, k5⟩)
    rw [upd_ne (ne_of ec e fun z => nomatch z), ec]
/-- the new dict -/
def emH : Bool → HO
  | false => .dK []
  | true => .dT []
def emD : Bool → D
  | false => .dK []
  | true => .dT []
theorem em_ok (b : Bool) (h : Heap) {P : Program} {w : World} {H : Hp} (hb : sysModules < h.objs.size) : ObjOk P w H (h.push { cls := .type "dict", data := .dict #[] }) h.objs.size (emH b) := by
  cases b with
  | false => exact dk_empty h hb
  | true => exact dt_empty h hb
/-- {k: v for tg in iter if ..} -/
def tDcB (bk : Bool) (wi : TI) (g : TG) (tt : TT) (tk tv : TE) (vs : List Nat) : TE := fun σ H Q => wi σ H fun J H1 => ∀ Da, H1 Da = none → ∃ W : Nat → Nat → Hp → Prop, (∃ m, W 0 m (upd H1 Da (emH bk))) ∧ ∀ i m H, W i m H →
  (J.stop i H ∧ Q (.ref Da) H) ∨ (J.go i H ∧ ∃ Nx : Hp → Prop, (∀ H', Nx H' → ∃ m', m' < m ∧ W (i + 1) m' H') ∧ ∀ x H', J.yld i H x H' → g x (L2.wipe σ vs) H' fun σ2 H2 => L2.wipe σ2 vs = L2.wipe σ vs ∧ tt σ2 H2 fun b H3 =>
    if b = true then tk σ2 H3 fun y H4 => tv σ2 H4 fun z H5 => ∃ H6, DPut H5 Da y z H6 ∧ Nx H6 else Nx H3)
theorem dcB_core {pins : List (Addr × Obj)} {s : Shared} {σ : L2.St} {H : Hp} {Q : VK} {use : Option (Value → Sem Unit)} {Qf : Value → Shared → Prop} {pos' : Pos} {bk : Bool} {kx vx tg iter : Expr} {ifs : List Expr} {scope : Scope} {own : List (Str × Nat)} {pos : Pos} {wi : TI} {g : TG} {tt : TT} {tk tv : TE} (hu : X.A.units + 1 < cLine) (hc : X.calm = true) (hN : X.N.Nodup) (I : L2.Inv X pins σ H s) (hi : PI X tg iter wi) (ok : BlkOk X.N X.env.scope scope own)
    (hg : ∀ (s : Shared) (H : Hp) (C : Addr) (cl : List (Str × Addr)) (fp : List Addr), PG (X.blk s H scope (compEnvC scope cl C X.env) fp) tg g) (ht : ∀ (s : Shared) (H : Hp) (C : Addr) (cl : List (Str × Addr)) (fp : List Addr), PTs (X.blk s H scope (compEnvC scope cl C X.env) fp) ifs tt)
    (hk : ∀ (s : Shared) (H : Hp) (C : Addr) (cl : List (Str × Addr)) (fp : List Addr), PE (X.blk s H scope (compEnvC scope cl C X.env) fp) kx tk)
    (hv : ∀ (s : Shared) (H : Hp) (C : Addr) (cl : List (Str × Addr)) (fp : List Addr), PE (X.blk s H scope (compEnvC scope cl C X.env) fp) vx tv) (hs : ∀ x, foldedSetIterable iter X.env x = pure x)
    (h : tDcB bk wi g tt tk tv (own.map (·.2)) σ H Q)
    (hRR : ∀ Da C s' m H', L2.Inv X pins σ H' s' → Q (.ref Da) H' → s'.heap.Ns C m → FpOk X pins H' C → compPost (model X.prog X.w) X.A X.xe use Qf (.ref Da) C (.ok .next) s') :
    wpAny (model X.prog X.w) X.A (comprehension (.DictComp kx vx [⟨tg, iter, ifs, 0⟩] scope pos) scope X.env pos' newDict false (eval iter X.env) use) Qf X.xe s := by
  have clos : ∀ y ∈ scope.names, y.2 = .free → ∃ c, X.env.cells.lookup y.1 = some c := fun y hy e => (ok.free y hy e).elim (fun k => I.ok.has _ (.inl k)) fun k => I.ok.has _ (.inr k)
  refine wpAny_comprehension_free (use := use) rfl hs (closure_ok clos) ok.kind (fun y hy e => by rw [ok.uniq y hy, e]) (thn (hi.run pins s σ H _ I h) fun xv sA hx => thn hx fun itv sB hB => ?_)
  obtain ⟨it, fp, tn, J, HB, rfl, IB, T, stB, fB, q⟩ := hB
  refine wpAny_newObj_type (newEnv_comp ?_)
  obtain ⟨Da, hDa⟩ : ∃ n, n = sB.heap.objs.size := ⟨_, rfl⟩
  have hfree : HB Da = none := IB.hok.fresh (Nat.le_of_eq hDa.symm)
  obtain ⟨W, ⟨m0, w0⟩, turn⟩ := q Da hfree
  rw [← hDa]
  obtain ⟨sC, hsC⟩ : ∃ x : Shared, x = { sB with heap := sB.heap.push { cls := .type "dict", data := .dict #[] } } := ⟨_, rfl⟩
  have hC : sC.heap = sB.heap.push { cls := .type "dict", data := .dict #[] } := by rw [hsC]
  obtain ⟨HC, hHC⟩ : ∃ x : Hp, x = upd HB Da (emH bk) := ⟨_, rfl⟩
  have IC : L2.Inv X pins σ HC sC := by
    rw [hHC, hsC]
    exact IB.laid (t' := sB.toks) (fun b o e => Heap.get?_push_of_some _ e) (Nat.le_of_eq hDa.symm) (hDa ▸ em_ok bk sB.heap IB.big)
  rw [← hsC]
  rw [← hHC] at w0
  have small : ∀ b ∈ fp, b < sB.heap.objs.size := fun b hb => (T.obj _ _ stB b hb).elim fun o h => Heap.lt_size h.1
  have fC : ∀ b ∈ fp, FpOk X pins HC b ∧ b < sC.heap.objs.size := fun b hb =>
    ⟨⟨by rw [hHC, upd_ne (by rw [hDa]; exact Nat.ne_of_lt (small b hb))]; exact (fB b hb).1, (fB b hb).2⟩, by rw [hC, Heap.size_push]; exact Nat.lt_succ_of_lt (small b hb)⟩
  have stC : tn 0 sC.heap := T.keep _ _ _ stB fun b _ o e => by rw [hC]; exact Heap.get?_push_of_some _ e
  have I0 := block_start IC ok hN fC
  have hlp : ∀ b ∈ fp, HC b = none := fun b hb => (fC b hb).1.1
  have pg := hg sC HC sC.heap.objs.size (cellsFrom (sC.heap.objs.size + 1) scope.names (cloFrom X.env.cells scope.names [])) fp
  have pt := ht sC HC sC.heap.objs.size (cellsFrom (sC.heap.objs.size + 1) scope.names (cloFrom X.env.cells scope.names [])) fp
  have pk := hk sC HC sC.heap.objs.size (cellsFrom (sC.heap.objs.size + 1) scope.names (cloFrom X.env.cells scope.names [])) fp
  have pv := hv sC HC sC.heap.objs.size (cellsFrom (sC.heap.objs.size + 1) scope.names (cloFrom X.env.cells scope.names [])) fp
  change codeAny _ _ (.compStart (.DictComp kx vx [⟨tg, iter, ifs, 0⟩] scope pos) 0 (.ref it) (.ref Da) (compEnvC scope (cellsFrom (sC.heap.objs.size + 1) scope.names (cloFrom X.env.cells scope.names [])) sC.heap.objs.size X.env)) (compPost (model X.prog X.w) X.A X.xe use Qf (.ref Da) sC.heap.objs.size) { sC with heap := pushCells (sC.heap.push { cls := .type "dict", data := .dict #[] }) scope.names }
  generalize hce : compEnvC scope (cellsFrom (sC.heap.objs.size + 1) scope.names (cloFrom X.env.cells scope.names [])) sC.heap.objs.size X.env = ce at I0 pg pt pk pv ⊢
  have cL : ce.locals = sC.heap.objs.size := by rw [← hce]; rfl
  generalize hsE : ({ sC with heap := pushCells (sC.heap.push { cls := .type "dict", data := .dict #[] }) scope.names } : Shared) = sE at I0 ⊢
  have stE : tn 0 sE.heap := T.keep _ _ _ stC fun b _ o e => by rw [← hsE]; exact pushCells_keeps _ _ _ _ (Heap.get?_push_of_some _ e)
  have stat : ∀ {σ' : L2.St} {H' : Hp} {s' : Shared}, L2.Inv (X.blk sC HC scope ce fp) [] σ' H' s' → (∀ b ∈ fp, H' b = none) → ∀ b ∈ fp, FpOk (X.blk sC HC scope ce fp) [] H' b := fun {σ' H' s'} I' hn b hb =>
    ⟨hn b hb, (I'.ok.exf b hb).1, I'.ok.exfs b hb, .inl hb, fun x c e => (I'.ok.exf b hb).2 x c e, fun p hp => by cases hp⟩
  have run := compLoop_anyD (prog := X.prog) (w := X.w) (A := X.A) (kx := kx) (vx := vx) (target := tg) (iter := iter) (ifs := ifs) (scope := scope) (pos := pos) (it := .ref it) (D := Da) (env := ce)
    (R := compPost (model X.prog X.w) X.A X.xe use Qf (.ref Da) sC.heap.objs.size)
    (fun n s' => ∃ i H', L2.Inv (X.blk sC HC scope ce fp) [] (L2.wipe σ (own.map (·.2))) H' s' ∧ tn i s'.heap ∧ (∀ b ∈ fp, H' b = none) ∧ W i n H') (by
      rintro n s5 ⟨i, H5, I5, st5, n5, w5⟩
      rcases turn i n H5 w5 with ⟨stop, qq⟩ | ⟨go, Nx, hNx, step⟩
      · refine thnF (T.done (X.blk sC HC scope ce fp) rfl rfl rfl hc i [] s5 _ H5 (fun _ _ => False) I5 (stat I5 n5) st5 stop) fun r s6 ⟨hr, I6⟩ => ?_
        subst hr
        have I7 : L2.Inv X pins σ H5 s6 := IC.call' (ch := fp) I6.os I6.base I6.hok I6.bare fun b hb => ⟨(fC b hb).1.2.2.2.1, (fC b hb).1.2.1, (fC b hb).1.2.2.2.2.1, (fC b hb).1.2.2.2.2.2⟩
        have nC : H5 sC.heap.objs.size = none := by rw [← cL]; exact I6.free
        obtain ⟨m, hn, _⟩ := I6.loc
        have hn : s6.heap.Ns sC.heap.objs.size m := by rw [← cL]; exact hn
        exact hRR Da sC.heap.objs.size s6 m H5 I7 qq hn (IC.fpOk (Nat.le_refl _) nC)
      · refine thnF (T.item (X.blk sC HC scope ce fp) rfl rfl rfl hc i [] s5 _ H5 (fun _ _ => False) I5 (stat I5 n5) st5 go) fun r s6 ⟨u, hr, h6⟩ => ?_
        subst hr
        refine thnF h6 fun _ s7 ⟨x, H7, I7, r7, y7, st7, n7⟩ => ?_
        refine thnF (pg.run _ s7 _ H7 x u _ (I7.pinned (stat I7 n7) (T.obj _ _ st7)) r7 (step x H7 y7)) fun _ s8 ⟨σ8, H8, I8, hw8, q8⟩ => ?_
        refine thnF (pt.run _ s8 σ8 H8 _ I8 q8) fun b s9 ⟨H9, I9, q9⟩ => ?_
        have fin : ∀ {s' : Shared} {H' : Hp}, L2.Inv (X.blk sC HC scope ce fp) ([] ++ pinsAt fp s7.heap) σ8 H' s' → Nx H' → ∃ m, m < n ∧ ∃ i H', L2.Inv (X.blk sC HC scope ce fp) [] (L2.wipe σ (own.map (·.2))) H' s' ∧ tn i s'.heap ∧ (∀ b ∈ fp, H' b = none) ∧ W i m H' := fun {s' H'} I' nx => by
          obtain ⟨m', hm, w'⟩ := hNx H' nx
          have kept : ∀ b ∈ fp, ∀ o, s7.heap.get? b = some o → s'.heap.get? b = some o ∧ H' b = none := fun b hb o e =>
            (I'.pin (b, o) (List.mem_append_right _ (List.mem_append_right _ (mem_pinsAt hb e)))).imp id fun z => z.1
          refine ⟨m', hm, i + 1, H', (I'.unpinned (pins := [])).weak (by rw [← hw8, wipe_length]) (fun j v e => (wipe_some (by rw [← hw8] at e; exact e)).1), T.keep _ _ _ st7 fun b hb o e => (kept b hb o e).1, fun b hb => ?_, w'⟩
          obtain ⟨o, e, _⟩ := T.obj _ _ st7 b hb
          exact (kept b hb o e).2
        cases b with
        | false =>
          rw [if_neg Bool.false_ne_true] at q9
          rw [if_neg Bool.false_ne_true]
          exact fin I9 q9
        | true =>
          rw [if_pos rfl] at q9
          rw [if_pos rfl]
          refine thnF (pk.run _ s9 σ8 H9 _ I9 q9) fun z sK ⟨yk, HK, IK, rk, qk⟩ => ?_
          refine thnF (pv.run _ sK σ8 HK _ IK qk) fun z2 sV ⟨yv, HV, IV, rv, HP, pt2, nx⟩ => ?_
          exact put_comp (X := X.blk sC HC scope ce fp) hu IV pt2 rk rv fun sP IP => fin IP nx) m0 (s := sE) ⟨0, HC, I0, stE, hlp, w0⟩
  exact codeAny_compStart_dict run (T.self X.A 0 _ _ _ stE run)
theorem pe_dcB {bk : Bool} {kx vx tg iter : Expr} {ifs : List Expr} {scope : Scope} {own : List (Str × Nat)} {pos : Pos} {wi : TI} {g : TG} {tt : TT} {tk tv : TE} (hu : X.A.units + 1 < cLine) (hc : X.calm = true) (hN : X.N.Nodup) (hi : PI X tg iter wi) (ok : BlkOk X.N X.env.scope scope own)
    (hg : ∀ (s : Shared) (H : Hp) (C : Addr) (cl : List (Str × Addr)) (fp : List Addr), PG (X.blk s H scope (compEnvC scope cl C X.env) fp) tg g) (ht : ∀ (s : Shared) (H : Hp) (C : Addr) (cl : List (Str × Addr)) (fp : List Addr), PTs (X.blk s H scope (compEnvC scope cl C X.env) fp) ifs tt)
    (hk : ∀ (s : Shared) (H : Hp) (C : Addr) (cl : List (Str × Addr)) (fp : List Addr), PE (X.blk s H scope (compEnvC scope cl C X.env) fp) kx tk)
    (hv : ∀ (s : Shared) (H : Hp) (C : Addr) (cl : List (Str × Addr)) (fp : List Addr), PE (X.blk s H scope (compEnvC scope cl C X.env) fp) vx tv) (hs : ∀ x, foldedSetIterable iter X.env x = pure x) :
    PE X (.DictComp kx vx [⟨tg, iter, ifs, 0⟩] scope pos) (tDcB bk wi g tt tk tv (own.map (·.2))) := by
  refine ⟨fun pins s σ H Q I h => ?_⟩
  rw [arm_eval_DictComp]
  refine dcB_core hu hc hN I hi ok hg ht hk hv hs h fun Da C s' m H' I' q hn f => ⟨m, hn, fun h2 sb => ?_⟩
  obtain ⟨f0, f1, f2, f3, f4, f5⟩ := f
  exact ⟨.ref Da, H', I'.turned (t' := s'.toks) (fun b o hb e => (sb.2 b hb).trans e) f0 f1 f3 f4 f5, rfl, q⟩
/-- y = {..} on one line, y a plain local -/
theorem ps_setDcB {i : Nat} {y : Str} {py spos : Pos} {bk : Bool} {kx vx tg iter : Expr} {ifs : List Expr} {scope : Scope} {own : List (Str × Nat)} {pos : Pos} {wi : TI} {g : TG} {tt : TT} {tk tv : TE} (hu : X.A.units + 1 < cLine) (hc : X.calm = true) (hN : X.N.Nodup) (hy : X.N[i]? = some y) (hyl : X.env.scope.names.lookup y = some .local) (hsw : swapsWith (.DictComp kx vx [⟨tg, iter, ifs, 0⟩] scope pos) (some (.Name y py)) spos.line X.env = pure true) (hi : PI X tg iter wi) (ok : BlkOk X.N X.env.scope scope own)
    (hg : ∀ (s : Shared) (H : Hp) (C : Addr) (cl : List (Str × Addr)) (fp : List Addr), PG (X.blk s H scope (compEnvC scope cl C X.env) fp) tg g) (ht : ∀ (s : Shared) (H : Hp) (C : Addr) (cl : List (Str × Addr)) (fp : List Addr), PTs (X.blk s H scope (compEnvC scope cl C X.env) fp) ifs tt)
    (hk : ∀ (s : Shared) (H : Hp) (C : Addr) (cl : List (Str × Addr)) (fp : List Addr), PE (X.blk s H scope (compEnvC scope cl C X.env) fp) kx tk)
    (hv : ∀ (s : Shared) (H : Hp) (C : Addr) (cl : List (Str × Addr)) (fp : List Addr), PE (X.blk s H scope (compEnvC scope cl C X.env) fp) vx tv) (hs : ∀ x, foldedSetIterable iter X.env x = pure x) :
    PS X (.Assign [.Name y py] (.DictComp kx vx [⟨tg, iter, ifs, 0⟩] scope pos) spos) (tAsg (tDcB bk wi g tt tk tv (own.map (·.2))) (L2.gName i)) := by
  refine ⟨fun pins s σ H D I h => ?_⟩
  rw [exec_Assign_Name_used _ _ _ _ hsw]
  refine wpAny_bind (wpAny_standAt (wpAny_bind ?_))
  change wpAny _ X.A (do let _ ← comprehension (.DictComp kx vx [⟨tg, iter, ifs, 0⟩] scope pos) scope X.env (firstIterPos [⟨tg, iter, ifs, 0⟩] pos) newDict false (eval iter X.env) (some (assign (.Name y py) X.env))) _ _ s
  have h : tDcB bk wi g tt tk tv (own.map (·.2)) σ H (fun x H1 => L2.gName i x σ H1 D.nx) := h
  refine wpAny_bind (thn (dcB_core (Qf := fun _ s' => SP X pins D .next s') hu hc hN I hi ok hg ht hk hv hs h fun Da C s' m H' I' q hn f => ?_) fun _ s' hq => wpAny_pure (wpAny_pure hq))
  change wpAny _ _ (assign (.Name y py) X.env (.ref Da)) _ _ _
  refine wpAny_assign_Name (store_ok2 (v := V.ref Da) I' hN hy (.inl hyl) rfl (fun s2 I2 ⟨a, sb, ha⟩ => ?_) (.inr hyl))
  obtain ⟨f0, f1, f2, f3, f4, f5⟩ := f
  have haC : C ≠ a := by
    rcases ha with z | z
    · rw [z]; exact f1
    · exact fun e => f4 y a z e.symm
  exact ⟨m, hn.sameBut sb haC, fun h3 sb3 => ⟨_, H', I2.turned (t' := s2.toks) (fun b o hb e => (sb3.2 b hb).trans e) f0 f1 f3 f4 f5, q⟩⟩
theorem sw_trueD {kx vx : Expr} {gs : List Comprehension} {scope : Scope} {pos py : Pos} {y : Str} {l : Nat} {env : PySem.Env} (hk : env.scope.kind = .function) (hy : env.scope.names.lookup y = some .local) (hl : (py.line == pos.line) = true)
    (ha : (scope.names.any fun (n, k) => n == y && (k == .local || k == .cell)) = false) : swapsWith (.DictComp kx vx gs scope pos) (some (.Name y py)) l env = pure true := by
  have ky : env.kindOf y = some .local := hy
  have hb : env.blockKind = .function := by unfold PySem.Env.blockKind; rw [hk]; rfl
  unfold swapsWith
  simp only [hb, ky, ha, Expr.pos, hl]
  rfl
end
end GK

namespace GK
open PySem PySem.Spec PyProof.Rows L2

def putDD : D → D → D → Option D
  | .dK es, k, v => match keyOf k with
    | some k => if es.length < sizeLine then some (.dK (putD es k v)) else none
    | none => none
  | .dT es, k, v => match keyT k with
    | some k => if es.length < sizeLine then some (.dT (putD es k v)) else none
    | none => none
  | _, _, _ => none
def compDD (t : D → Env → Option Env) (fc : FT) (fk fv : FE) (ρ : Env) : List D → D → (D → Prop) → Prop
  | [], acc, R => R acc
  | x :: xs, acc, R => ∃ ρ', t x ρ = some ρ' ∧ fc ρ' fun b => if b = true then fk ρ' fun k => fv ρ' fun v => ∃ acc', putDD acc k v = some acc' ∧ compDD t fc fk fv ρ xs acc' R else compDD t fc fk fv ρ xs acc R
section
variable {K : PySem.W.Frag} {B A fp : List Addr} {F F1 F' H H1 H' : Hp} {σ : L2.St} {ρ : Env}
theorem dput_ok {Da : Addr} {acc acc' k v : D} {y z : V} (w : WF B F H) (o : Own K F H 1 (.ref Da) acc [Da]) (ry : R K F y k) (rz : R K F z v) (e : putDD acc k v = some acc') :
    ∃ u, DPut H Da y z (upd H Da u) ∧ erO u = u ∧ Own K F (upd H Da u) 1 (.ref Da) acc' [Da] := by
  cases acc <;> try (cases e; done)
  · rename_i es
    unfold putDD at e
    dsimp only at e
    split at e
    · rename_i kk ek
      split at e
      · rename_i hz
        cases e
        obtain ⟨a, kvs, f, ea, h1, ef, hk, t⟩ := o
        cases ea
        have hlen : kvs.length = es.length := by have := congrArg List.length hk; simpa using this
        have ey := keyOf_R ek ry
        subst ey
        have ef' : f = [] := (List.cons.inj ef).2.symm
        subst ef'
        exact ⟨_, DPut.k h1 (by rw [hlen]; exact hz), rfl, _, _, [], rfl, upd_same, rfl, put_keys hk, OwnL.zero (put_rl rz hk t.toRL0)⟩
      · cases e
    · cases e
  · rename_i es
    unfold putDD at e
    dsimp only at e
    split at e
    · rename_i kk ek
      split at e
      · rename_i hz
        cases e
        obtain ⟨a, kvs, f, ea, h1, ef, hk, t⟩ := o
        cases ea
        have hlen : kvs.length = es.length := by have := congrArg List.length hk; simpa using this
        cases k <;> try (cases ek; done)
        obtain ⟨ta, ws, rfl, ht, hrl⟩ := ry.tupI
        have ew := keysOf_R ek hrl
        subst ew
        have ef' : f = [] := (List.cons.inj ef).2.symm
        subst ef'
        exact ⟨_, DPut.t h1 (tup_of w (w.sub _ _ ht)) (by rw [hlen]; exact hz), rfl, _, _, [], rfl, upd_same, rfl, put_keys hk, OwnL.zero (put_rl rz hk t.toRL0)⟩
      · cases e
    · cases e
structure DcW (K : PySem.W.Frag) (B : List Addr) (F1 H1 : Hp) (Da : Addr) (F H : Hp) (acc : D) : Prop where
  s : Step B [] F1 H1 F H
  own : Own K F H 1 (.ref Da) acc [Da]
  FD : F Da = none
theorem DcW.step {Da : Addr} {acc : D} (hB : Da ∉ B) (w : DcW K B F1 H1 Da F H acc) (s : Step B [] F H F' H') : DcW K B F1 H1 Da F' H' acc := by
  obtain ⟨o, e, mu⟩ := w.own.there Da (by simp)
  refine ⟨w.s.trans s fun a h => (by cases h), Own.mono s.fs (fun a ha o e => s.same a o (by rw [List.mem_singleton.mp ha]; exact hB) e) w.own, s.out e mu hB w.FD fun z => (by cases z)⟩
theorem DcW.unlockd {Da a : Addr} {od : Obj} {u : HO} {acc : D} (h : H1 a = some u) (hd : isDct u) (hB : a ∉ B) (hD : H1 Da = none) (w : DcW K B F1 (upd H1 a (.frz od u)) Da F H acc) : DcW K B F1 H1 Da F (upd H a u) acc := by
  have hne : Da ≠ a := fun z => by rw [z, h] at hD; cases hD
  exact ⟨w.s.unlockd h hd hB, w.own.upd fun z => hne (List.mem_singleton.mp z).symm, w.FD⟩
theorem DcW.post {R : D → Prop} {Q : VK} {Da : Addr} {acc : D} (hD : H1 Da = none) (hB : Da ∉ B) (w : DcW K B F1 H1 Da F H acc) (hR : R acc) (k : Post K B A F1 H1 (.own 1) R Q) : Q (.ref Da) H :=
  k F H _ acc [Da] (w.s.weak fun a h => (by cases h)) w.own (fun a ha => by rw [List.mem_singleton.mp ha]; exact ⟨.inr hD, w.FD, hB⟩) (by simp) hR
theorem dc_core' {X : Cx} {bk : Bool} {t : D → Env → Option Env} {fc : FT} {fk fv : FE} {g : TG} {J : It} {xs : List D} {R : D → Prop} {Q : VK} {Z : Hp} {Da : Addr} {vs : List Nat} {ρw : Env}
    (kg : ∀ (B : List Addr) (F H : Hp) (σ : L2.St) (ρ ρ' : Env) (fp : List Addr) (v : V) (d : D), StOk X.K B [] noH noH F H (L2.wipe σ vs) ρ fp → GK.R X.K F v d → t d ρ = some ρ' →
      ∀ Q : L2.St → Hp → Prop, (∀ σ' fp', StOk X.K B [] noH noH F H σ' ρ' fp' → L2.wipe σ' vs = L2.wipe σ vs → Q σ' H) → g v (L2.wipe σ vs) H Q)
    (S : StOk X.K B [] noH noH F1 H1 (L2.wipe σ vs) ρw fp) (it : ItD X.K B Z F1 J xs) (hZ : ∀ a o, Z a = some o → a ∉ B ∧ H1 a = some o) (hD : H1 Da = none) (hx : compDD t fc fk fv ρw xs (emD bk) R)
    (fin : ∀ F H acc, DcW X.K B F1 H1 Da F H acc → R acc → Q (.ref Da) H) :
    ∃ W : Nat → Nat → Hp → Prop, (∃ m, W 0 m (upd H1 Da (emH bk))) ∧ ∀ i m H, W i m H → (J.stop i H ∧ Q (.ref Da) H) ∨ (J.go i H ∧ ∃ Nx : Hp → Prop, (∀ H', Nx H' → ∃ m', m' < m ∧ W (i + 1) m' H') ∧ ∀ x H', J.yld i H x H' →
      g x (L2.wipe σ vs) H' fun σ2 H2 => L2.wipe σ2 vs = L2.wipe σ vs ∧ tDT X.K B fc σ2 H2 fun b H3 => if b = true then tD X.K B (.own 0) fk σ2 H3 fun y H4 => tD X.K B (.own 0) fv σ2 H4 fun z H5 => ∃ H6, DPut H5 Da y z H6 ∧ Nx H6 else Nx H3) := by
  have hB : Da ∉ B := S.wf.notB hD
  have hF : F1 Da = none := F_none S.wf hD
  have h0 : Own X.K F1 (upd H1 Da (emH bk)) 1 (.ref Da) (emD bk) [Da] := by
    cases bk
    · exact ⟨Da, [], [], rfl, upd_same, rfl, rfl, rfl⟩
    · exact ⟨Da, [], [], rfl, upd_same, rfl, rfl, rfl⟩
  have e0 : erO (emH bk) = emH bk := by cases bk <;> rfl
  refine ⟨fun i m H => ∃ F acc, DcW X.K B F1 H1 Da F H acc ∧ m = xs.length - i ∧ i ≤ xs.length ∧ compDD t fc fk fv ρw (xs.drop i) acc R,
    ⟨xs.length, F1, emD bk, ⟨(Step.refl S.wf).mutNew hD hF hB e0, h0, hF⟩, rfl, Nat.zero_le _, hx⟩, ?_⟩
  rintro i m H ⟨F, acc, w, rfl, hi, hr⟩
  obtain ⟨k1, k2⟩ := it i F H w.s.wf (fun a o e => w.s.same a o (hZ a o e).1 (hZ a o e).2) w.s.fs
  by_cases hlt : i < xs.length
  · refine .inr ⟨(k1 hlt).1, fun H' => ∃ F acc, DcW X.K B F1 H1 Da F H' acc ∧ compDD t fc fk fv ρw (xs.drop (i + 1)) acc R, fun H' ⟨F, acc, w, h⟩ => ⟨xs.length - (i + 1), by omega, F, acc, w, rfl, hlt, h⟩, fun x H' y => ?_⟩
    obtain ⟨F2, d, ed, s2, r2⟩ := (k1 hlt).2 x H' y
    have w2 := w.step hB s2
    rw [List.drop_eq_getElem_cons hlt] at hr
    have ed' : xs[i] = d := Option.some.inj ((List.getElem?_eq_getElem hlt).symm.trans ed)
    rw [ed'] at hr
    obtain ⟨ρ', et, hb'⟩ := hr
    refine kg B F2 H' σ ρw ρ' fp x d (S.step w2.s fun a h => (by cases h)) r2 et _ fun σ2 fp2 S3 hw => ⟨hw, ?_⟩
    refine ⟨F2, ρ', fp2, _, S3, hb', fun F3 H3 b s3 hb => ?_⟩
    have w3 := w2.step hB s3
    cases b with
    | false =>
      dsimp only at hb ⊢
      rw [if_neg Bool.false_ne_true] at hb ⊢
      exact ⟨F3, acc, w3, hb⟩
    | true =>
      dsimp only at hb ⊢
      rw [if_pos rfl] at hb ⊢
      have S4 := S3.step s3 (fun a h => by cases h)
      refine ⟨F3, ρ', fp2, _, S4, hb, fun F4 H4 yk dk fy s4 hy oy ny hk => ?_⟩
      refine ⟨F4, ρ', fp2, _, S4.step s4 (fun a h => by cases h), hk, fun F5 H5 yv dv fv' s5 hv ov nv ⟨acc', ea, hk2⟩ => ?_⟩
      have w5 := (w3.step hB s4).step hB s5
      obtain ⟨u, dp, eu, ow⟩ := dput_ok w5.s.wf w5.own (hy.1.mono s5.fs) hv.1 ea
      exact ⟨_, dp, F5, acc', ⟨w5.s.mutNew hD w5.FD hB eu, ow, w5.FD⟩, hk2⟩
  · have e : i = xs.length := by omega
    subst e
    rw [List.drop_length] at hr
    exact .inl ⟨k2 (Nat.le_refl _), fin F H acc w hr⟩
end
def gCompD (fi : FI) (bk : Bool) (t : D → Env → Option Env) (fc : FT) (fk fv : FE) (vs : List Nat) : FE := fun ρ R => fi ρ fun xs => compDD t fc fk fv (wipeE ρ vs) xs (emD bk) R
section
variable {X : Cx} {kx vx tg iter : Expr} {ifs : List Expr} {scope : Scope} {own : List (Str × Nat)} {pos : Pos} {f fk fv : FE} {fi : FI} {fc : FT} {t : D → Env → Option Env}
theorem de_dc (bk : Bool) (hu : X.A.units + 1 < cLine) (hc : X.calm = true) (hN : X.N.Nodup) (hi : DI X B tg iter fi) (ok : BlkOk X.N X.env.scope scope own) (hg : DGc X tg (own.map (·.2)) t) (hol : ∀ v ∈ own.map (·.2), ∃ x, X.N[v]? = some x ∧ ∀ C cl, (compEnvC scope cl C X.env).scope.names.lookup x = some .local)
    (ht : ∀ (s : Shared) (H : Hp) (C : Addr) (cl : List (Str × Addr)) (fp : List Addr), DTs (X.blk s H scope (compEnvC scope cl C X.env) fp) B ifs fc)
    (hk : ∀ (s : Shared) (H : Hp) (C : Addr) (cl : List (Str × Addr)) (fp : List Addr), DE (X.blk s H scope (compEnvC scope cl C X.env) fp) B kx (.own 0) fk)
    (hv : ∀ (s : Shared) (H : Hp) (C : Addr) (cl : List (Str × Addr)) (fp : List Addr), DE (X.blk s H scope (compEnvC scope cl C X.env) fp) B vx (.own 0) fv) (hs : ∀ x, foldedSetIterable iter X.env x = pure x := by intro _; rfl) :
    DE X B (.DictComp kx vx [⟨tg, iter, ifs, 0⟩] scope pos) (.own 1) (gCompD fi bk t fc fk fv (own.map (·.2))) := by
  obtain ⟨g, pg, kg⟩ := hg.ok
  refine PE.imp (pe_dcB (bk := bk) (tt := tDT X.K B fc) (tk := tD X.K B (.own 0) fk) (tv := tD X.K B (.own 0) fv) hu hc hN hi ok (fun s H C cl fp => pg s H scope C cl fp hol) ht hk hv hs) fun σ H Q ⟨F, ρ, fp, R, S, hf, k⟩ => ⟨F, ρ, fp, _, S, hf, fun J F1 H1 xs s1 it hx Da hD => ?_⟩
  have S1 := S.step s1 fun a h => (by cases h)
  obtain ⟨fpw, Sw, _⟩ := S1.wipe (own.map (·.2))
  exact dc_core' kg Sw it (fun a o e => prot_sub e) hD hx fun F H acc w hR => w.post hD (S1.wf.notB hD) hR (k.after s1 (A1 := []) fun a h => (by cases h))
theorem de_dcK (bk : Bool) (hu : X.A.units + 1 < cLine) (hc : X.calm = true) (hN : X.N.Nodup) (hi : DE X B iter (.own 0) f) (ok : BlkOk X.N X.env.scope scope own) (hg : DGc X tg (own.map (·.2)) t) (hol : ∀ v ∈ own.map (·.2), ∃ x, X.N[v]? = some x ∧ ∀ C cl, (compEnvC scope cl C X.env).scope.names.lookup x = some .local)
    (ht : ∀ (s : Shared) (H : Hp) (C : Addr) (cl : List (Str × Addr)) (fp : List Addr), DTs (X.blk s H scope (compEnvC scope cl C X.env) fp) B ifs fc)
    (hk : ∀ (s : Shared) (H : Hp) (C : Addr) (cl : List (Str × Addr)) (fp : List Addr), DE (X.blk s H scope (compEnvC scope cl C X.env) fp) B kx (.own 0) fk)
    (hv : ∀ (s : Shared) (H : Hp) (C : Addr) (cl : List (Str × Addr)) (fp : List Addr), DE (X.blk s H scope (compEnvC scope cl C X.env) fp) B vx (.own 0) fv) (hs : ∀ x, foldedSetIterable iter X.env x = pure x := by intro _; rfl) :
    DE X B (.DictComp kx vx [⟨tg, iter, ifs, 0⟩] scope pos) (.own 1) (gCompD (fun ρ R => f ρ (ksOf R)) bk t fc fk fv (own.map (·.2))) := by
  obtain ⟨g, pg, kg⟩ := hg.ok
  refine PE.imp (pe_unl (pe_dcB (bk := bk) (tt := tDT X.K B fc) (tk := tD X.K B (.own 0) fk) (tv := tD X.K B (.own 0) fv) hu hc hN (pi_keys (pe_lockA hi)) ok (fun s H C cl fp => pg s H scope C cl fp hol) ht hk hv hs)) fun σ H Q ⟨F, ρ, fp, R, S, hf, k⟩ =>
    keys_ti (Rx := fun xs => compDD t fc fk fv (wipeE ρ (own.map fun e : Str × Nat => e.2)) xs (emD bk) R) S hf fun J F1 H1 H1' xs s1 hx S1 lk hno it Da hD => ?_
  obtain ⟨fpw, Sw, _⟩ := S1.wipe (own.map (·.2))
  refine dc_core' kg Sw it (fun a o e => prot_sub e) hD hx fun F H acc w hR => ?_
  have hD1 : H1 Da = none := (hno Da).mp hD
  have hB : Da ∉ B := S1.wf.notB hD
  refine unl_fin lk w.s (fun e => ?_) fun a od u h1 h2 h3 e => ?_
  · subst e
    exact w.post hD1 hB hR (k.after s1 (A1 := []) fun a h => (by cases h))
  · subst e
    exact (w.unlockd h1 h2 h3 hD1).post hD1 hB hR (k.after s1 (A1 := []) fun a h => (by cases h))
theorem ds_setDc (i : Nat) (bk : Bool) {pin : Nat} {mr : Mode} {y : Str} {py spos : Pos} (hu : X.A.units + 1 < cLine) (hc : X.calm = true) (hN : X.N.Nodup) (hy : X.N[i]? = some y) (hyl : X.env.scope.names.lookup y = some .local) (hp : pin ≤ i)
    (hsw : swapsWith (.DictComp kx vx [⟨tg, iter, ifs, 0⟩] scope pos) (some (.Name y py)) spos.line X.env = pure true) (hi : DI X B tg iter fi) (ok : BlkOk X.N X.env.scope scope own) (hg : DGc X tg (own.map (·.2)) t) (hol : ∀ v ∈ own.map (·.2), ∃ x, X.N[v]? = some x ∧ ∀ C cl, (compEnvC scope cl C X.env).scope.names.lookup x = some .local)
    (ht : ∀ (s : Shared) (H : Hp) (C : Addr) (cl : List (Str × Addr)) (fp : List Addr), DTs (X.blk s H scope (compEnvC scope cl C X.env) fp) B ifs fc)
    (hk : ∀ (s : Shared) (H : Hp) (C : Addr) (cl : List (Str × Addr)) (fp : List Addr), DE (X.blk s H scope (compEnvC scope cl C X.env) fp) B kx (.own 0) fk)
    (hv : ∀ (s : Shared) (H : Hp) (C : Addr) (cl : List (Str × Addr)) (fp : List Addr), DE (X.blk s H scope (compEnvC scope cl C X.env) fp) B vx (.own 0) fv) (hs : ∀ x, foldedSetIterable iter X.env x = pure x := by intro _; rfl) :
    DS X B (.Assign [.Name y py] (.DictComp kx vx [⟨tg, iter, ifs, 0⟩] scope pos) spos) pin mr (fun E ρ => gCompD fi bk t fc fk fv (own.map (·.2)) ρ fun d => i < ρ.length ∧ E.nx (ρ.set i (some (1, d)))) := by
  obtain ⟨g, pg, kg⟩ := hg.ok
  refine PS.imp (ps_setDcB (bk := bk) (tt := tDT X.K B fc) (tk := tD X.K B (.own 0) fk) (tv := tD X.K B (.own 0) fv) hu hc hN hy hyl hsw hi ok (fun s H C cl fp => pg s H scope C cl fp hol) ht hk hv hs) fun Dn σ H ⟨Pn, Z0, F0, F, ρ, fp, E, hpl, S, hf, L⟩ => ?_
  obtain ⟨F, ρ, fp, R, S, hf, k⟩ := tDM_of (pin := pin) (K := X.K) (Q := fun x H1 => Dn.nx (σ.set i (some x)) H1) (m := .own 1) (f := gCompD fi bk t fc fk fv (own.map (·.2))) ⟨Pn, Z0, F0, F, ρ, fp, fun d ρ' => i < ρ'.length ∧ E.nx (ρ'.set i (some (1, d))), hpl, S, hf, fun F' H' ρ' fp' v d f' S' hv ap hR => by
    obtain ⟨fp2, S2⟩ := S'.set hv ap hR.1 (by omega)
    exact L.nx F' H' _ _ fp2 S2 hR.2⟩
  refine ⟨F, ρ, fp, _, S, hf, fun J F1 H1 xs s1 it hx Da hD => ?_⟩
  have S1 := S.step s1 fun a h => (by cases h)
  obtain ⟨fpw, Sw, _⟩ := S1.wipe (own.map (·.2))
  exact dc_core' (Q := fun x H1 => Dn.nx (σ.set i (some x)) H1) kg Sw it (fun a o e => prot_sub e) hD hx fun F H acc w hR => w.post hD (S1.wf.notB hD) hR (k.after s1 (A1 := []) fun a h => (by cases h))
theorem ds_setDcK (i : Nat) (bk : Bool) {pin : Nat} {mr : Mode} {y : Str} {py spos : Pos} (hu : X.A.units + 1 < cLine) (hc : X.calm = true) (hN : X.N.Nodup) (hy : X.N[i]? = some y) (hyl : X.env.scope.names.lookup y = some .local) (hp : pin ≤ i)
    (hsw : swapsWith (.DictComp kx vx [⟨tg, iter, ifs, 0⟩] scope pos) (some (.Name y py)) spos.line X.env = pure true) (hi : DE X B iter (.own 0) f) (ok : BlkOk X.N X.env.scope scope own) (hg : DGc X tg (own.map (·.2)) t) (hol : ∀ v ∈ own.map (·.2), ∃ x, X.N[v]? = some x ∧ ∀ C cl, (compEnvC scope cl C X.env).scope.names.lookup x = some .local)
    (ht : ∀ (s : Shared) (H : Hp) (C : Addr) (cl : List (Str × Addr)) (fp : List Addr), DTs (X.blk s H scope (compEnvC scope cl C X.env) fp) B ifs fc)
    (hk : ∀ (s : Shared) (H : Hp) (C : Addr) (cl : List (Str × Addr)) (fp : List Addr), DE (X.blk s H scope (compEnvC scope cl C X.env) fp) B kx (.own 0) fk)
    (hv : ∀ (s : Shared) (H : Hp) (C : Addr) (cl : List (Str × Addr)) (fp : List Addr), DE (X.blk s H scope (compEnvC scope cl C X.env) fp) B vx (.own 0) fv) (hs : ∀ x, foldedSetIterable iter X.env x = pure x := by intro _; rfl) :
    DS X B (.Assign [.Name y py] (.DictComp kx vx [⟨tg, iter, ifs, 0⟩] scope pos) spos) pin mr (fun E ρ => gCompD (fun ρ R => f ρ (ksOf R)) bk t fc fk fv (own.map (·.2)) ρ fun d => i < ρ.length ∧ E.nx (ρ.set i (some (1, d)))) := by
  obtain ⟨g, pg, kg⟩ := hg.ok
  refine PS.imp (ps_unl (ps_setDcB (bk := bk) (tt := tDT X.K B fc) (tk := tD X.K B (.own 0) fk) (tv := tD X.K B (.own 0) fv) hu hc hN hy hyl hsw (pi_keys (pe_lockA hi)) ok (fun s H C cl fp => pg s H scope C cl fp hol) ht hk hv hs)) fun Dn σ H ⟨Pn, Z0, F0, F, ρ, fp, E, hpl, S, hf, L⟩ => ?_
  obtain ⟨F, ρ, fp, R, S, hf, k⟩ := tDM_of (pin := pin) (K := X.K) (Q := fun x H1 => Dn.nx (σ.set i (some x)) H1) (m := .own 1) (f := gCompD (fun ρ R => f ρ (ksOf R)) bk t fc fk fv (own.map (·.2))) ⟨Pn, Z0, F0, F, ρ, fp, fun d ρ' => i < ρ'.length ∧ E.nx (ρ'.set i (some (1, d))), hpl, S, hf, fun F' H' ρ' fp' v d f' S' hv ap hR => by
    obtain ⟨fp2, S2⟩ := S'.set hv ap hR.1 (by omega)
    exact L.nx F' H' _ _ fp2 S2 hR.2⟩
  unfold tAsg tDcB
  dsimp only
  refine keys_ti (Rx := fun xs => compDD t fc fk fv (wipeE ρ (own.map fun e : Str × Nat => e.2)) xs (emD bk) R) S hf fun J F1 H1 H1' xs s1 hx S1 lk hno it Da hD => ?_
  obtain ⟨fpw, Sw, _⟩ := S1.wipe (own.map (·.2))
  refine dc_core' (Q := fun x H1 => unlS X Dn.nx (σ.set i (some x)) H1) kg Sw it (fun a o e => prot_sub e) hD hx fun F H acc w hR => ?_
  have hD1 : H1 Da = none := (hno Da).mp hD
  have hB : Da ∉ B := S1.wf.notB hD
  refine unl_fin (Q := fun x H1 => Dn.nx (σ.set i (some x)) H1) (v := .ref Da) lk w.s (fun e => ?_) fun a od u h1 h2 h3 e => ?_
  · subst e
    exact w.post hD1 hB hR (k.after s1 (A1 := []) fun a h => (by cases h))
  · subst e
    exact (w.unlockd h1 h2 h3 hD1).post hD1 hB hR (k.after s1 (A1 := []) fun a h => (by cases h))
end
end GK

namespace GK
open PySem PySem.Spec PyProof.Rows L2

/-! ### places inside what a name owns: a[i], a.f, a[k][j] .. -/
inductive PSt where
  | fld (f : Str) | ix (k : Nat) | key (k : Key) | keyT (k : List Key)
/-- the first entry of a key is replaced -/
def setE {κ : Type} (p : κ → Bool) (x : D) : List (κ × D) → List (κ × D)
  | [] => []
  | e :: r => if p e.1 = true then (e.1, x) :: r else e :: setE p x r
def subD : D → PSt → Option D
  | .obj _ es, .fld f => es.lookup f
  | .lst ds, .ix k => ds[k]?
  | .dK es, .key k => getD' es k
  | .dT es, .keyT k => getD' es k
  | _, _ => none
def subP : D → List PSt → Option D
  | d, [] => some d
  | d, s :: p => (subD d s).bind fun e => subP e p
def setD : D → PSt → D → D
  | .obj C es, .fld f, x => .obj C (setE (fun g => f == g) x es)
  | .lst ds, .ix k, x => .lst (ds.set k x)
  | .dK es, .key k, x => .dK (setE (fun g => decide (g = k)) x es)
  | .dT es, .keyT k, x => .dT (setE (fun g => decide (g = k)) x es)
  | d, _, _ => d
def setP : D → List PSt → D → D
  | _, [], x => x
  | d, s :: p, x => match subD d s with
    | some e => setD d s (setP e p x)
    | none => d
def AtV (B : List Addr) (H : Hp) (v : V) : PSt → V → Prop
  | .fld f, w => ∃ a C dx fs, v = .ref a ∧ a ∉ B ∧ H a = some (.ins C dx fs) ∧ fs.lookup f = some w
  | .ix k, w => ∃ a vs, v = .ref a ∧ a ∉ B ∧ H a = some (.lst vs) ∧ vs[k]? = some w
  | .key k, w => ∃ a kvs, v = .ref a ∧ a ∉ B ∧ H a = some (.dK kvs) ∧ valV kvs k = some w
  | .keyT k, w => ∃ a kvs, v = .ref a ∧ a ∉ B ∧ H a = some (.dT kvs) ∧ valV kvs k = some w
def PathV (B : List Addr) (H : Hp) : V → List PSt → V → Prop
  | v, [], w => w = v
  | v, s :: p, w => ∃ x, AtV B H v s x ∧ PathV B H x p w
section
variable {K : PySem.W.Frag} {B A fp : List Addr} {F F1 F' H H1 H' : Hp} {σ : L2.St} {ρ : Env} {n m : Nat}
theorem AtV.det {v w w' : V} : ∀ {s : PSt}, AtV B H v s w → AtV B H v s w' → w = w'
  | .fld f, ⟨a, C, dx, fs, e, _, h, l⟩, ⟨a', C', dx', fs', e', _, h', l'⟩ => by
    subst e; cases e'; rw [h] at h'; cases h'; rw [l] at l'; exact Option.some.inj l'
  | .ix k, ⟨a, fs, e, _, h, l⟩, ⟨a', fs', e', _, h', l'⟩ => by
    subst e; cases e'; rw [h] at h'; cases h'; rw [l] at l'; exact Option.some.inj l'
  | .key k, ⟨a, fs, e, _, h, l⟩, ⟨a', fs', e', _, h', l'⟩ => by
    subst e; cases e'; rw [h] at h'; cases h'; rw [l] at l'; exact Option.some.inj l'
  | .keyT k, ⟨a, fs, e, _, h, l⟩, ⟨a', fs', e', _, h', l'⟩ => by
    subst e; cases e'; rw [h] at h'; cases h'; rw [l] at l'; exact Option.some.inj l'
theorem PathV.det : ∀ {p : List PSt} {v w w' : V}, PathV B H v p w → PathV B H v p w' → w = w'
  | [], _, _, _, h, h' => h.trans h'.symm
  | s :: p, _, _, _, ⟨x, h1, h2⟩, ⟨x', h1', h2'⟩ => by
    have := h1.det h1'
    subst this
    exact h2.det h2'
theorem AtV.same (s : ∀ a o, a ∉ B → H a = some o → H' a = some o) {v w : V} : ∀ {q : PSt}, AtV B H v q w → AtV B H' v q w
  | .fld f, ⟨a, C, dx, fs, e, hb, h, l⟩ => ⟨a, C, dx, fs, e, hb, s a _ hb h, l⟩
  | .ix k, ⟨a, fs, e, hb, h, l⟩ => ⟨a, fs, e, hb, s a _ hb h, l⟩
  | .key k, ⟨a, fs, e, hb, h, l⟩ => ⟨a, fs, e, hb, s a _ hb h, l⟩
  | .keyT k, ⟨a, fs, e, hb, h, l⟩ => ⟨a, fs, e, hb, s a _ hb h, l⟩
theorem PathV.same (s : ∀ a o, a ∉ B → H a = some o → H' a = some o) : ∀ {p : List PSt} {v w : V}, PathV B H v p w → PathV B H' v p w
  | [], _, _, h => h
  | q :: p, _, _, ⟨x, h1, h2⟩ => ⟨x, h1.same s, PathV.same s h2⟩
theorem PathV.app : ∀ {p : List PSt} {v x w : V} {q : PSt}, PathV B H v p x → AtV B H x q w → PathV B H v (p ++ [q]) w
  | [], _, _, _, _, h, k => by
    have h : _ = _ := h
    subst h
    exact ⟨_, k, rfl⟩
  | s :: p, _, _, _, _, ⟨y, h1, h2⟩, k => ⟨y, h1, PathV.app h2 k⟩
theorem subP_app : ∀ {p : List PSt} {d : D} {q : PSt}, subP d (p ++ [q]) = (subP d p).bind fun e => subD e q
  | [], d, q => by
    show (subD d q).bind (fun e => some e) = subD d q
    cases subD d q <;> rfl
  | s :: p, d, q => by
    show (subD d s).bind (fun e => subP e (p ++ [q])) = ((subD d s).bind fun e => subP e p).bind fun e => subD e q
    cases subD d s with
    | none => rfl
    | some e => exact subP_app
/-- the item at a place -/
theorem OwnL.at_ {P : V → D → List Addr → Prop} : ∀ {vs : List V} {ds : List D} {fp : List Addr} {i : Nat} {e : D}, OwnL P vs ds fp → fp.Nodup → ds[i]? = some e →
    ∃ v f, vs[i]? = some v ∧ P v e f ∧ (∀ a ∈ f, a ∈ fp) ∧ f.Nodup ∧ ∀ (P' : V → D → List Addr → Prop) (e' : D) (g : List Addr), (∀ w d k, (∀ b ∈ k, b ∈ fp ∧ b ∉ f) → P w d k → P' w d k) → P' v e' g → (∀ b ∈ g, b ∈ f ∨ b ∉ fp) → g.Nodup →
      ∃ fp', OwnL P' vs (ds.set i e') fp' ∧ fp'.Nodup ∧ ∀ b ∈ fp', b ∈ fp ∨ b ∈ g
  | [], [], _, i, e, _, _, h => by simp at h
  | v :: vs, d :: ds, fp, 0, e, ⟨f1, f2, ef, h, t⟩, nd, q => by
    have q' : d = e := Option.some.inj q
    subst q'
    subst ef
    obtain ⟨n1, n2, n3⟩ := List.nodup_append.mp nd
    refine ⟨v, f1, rfl, h, fun a ha => List.mem_append_left _ ha, n1, fun P' e' g hP hg hs hn => ⟨g ++ f2, ⟨g, f2, rfl, hg, t.imp fun w d k hk => hP w d k fun b hb => ⟨List.mem_append_right _ (hk b hb), fun z => n3 b z b (hk b hb) rfl⟩⟩, List.nodup_append.mpr ⟨hn, n2, fun a ha b hb e => ?_⟩, fun b hb => ?_⟩⟩
    · subst e
      rcases hs a ha with z | z
      · exact n3 a z a hb rfl
      · exact z (List.mem_append_right _ hb)
    · rcases List.mem_append.mp hb with z | z
      · exact .inr z
      · exact .inl (List.mem_append_right _ z)
  | v :: vs, d :: ds, fp, i + 1, e, ⟨f1, f2, ef, h, t⟩, nd, q => by
    subst ef
    obtain ⟨n1, n2, n3⟩ := List.nodup_append.mp nd
    obtain ⟨w, f, e1, e2, e3, e4, k⟩ := OwnL.at_ (i := i) (e := e) t n2 q
    refine ⟨w, f, e1, e2, fun a ha => List.mem_append_right _ (e3 a ha), e4, fun P' e' g hP hg hs hn => ?_⟩
    obtain ⟨fp', o, nd', sub⟩ := k P' e' g (fun w d l hl => hP w d l fun b hb => ⟨List.mem_append_right _ (hl b hb).1, (hl b hb).2⟩) hg (fun b hb => (hs b hb).imp id fun z y => z (List.mem_append_right _ y)) hn
    refine ⟨f1 ++ fp', ⟨f1, fp', rfl, hP v d f1 (fun b hb => ⟨List.mem_append_left _ hb, fun z => n3 b hb b (e3 b z) rfl⟩) h, o⟩, List.nodup_append.mpr ⟨n1, nd', fun a ha b hb e => ?_⟩, fun b hb => ?_⟩
    · subst e
      rcases sub a hb with z | z
      · exact n3 a ha a z rfl
      · rcases hs a z with y | y
        · exact n3 a ha a (e3 a y) rfl
        · exact y (List.mem_append_left _ ha)
    · rcases List.mem_append.mp hb with z | z
      · exact .inl (List.mem_append_left _ z)
      · exact (sub b z).imp (fun y => List.mem_append_right _ y) id
theorem setE_at {κ : Type} {p : κ → Bool} {x : D} : ∀ {es : List (κ × D)} {i : Nat} {k : κ}, (es.map (·.1))[i]? = some k → p k = true → (∀ j k', j < i → (es.map (·.1))[j]? = some k' → p k' = false) → (setE p x es).map (·.2) = (es.map (·.2)).set i x ∧ (setE p x es).map (·.1) = es.map (·.1)
  | [], i, k, e, _, _ => by simp at e
  | q :: r, 0, k, e, hp, _ => by
    have e' : q.1 = k := Option.some.inj e
    subst e'
    unfold setE
    rw [if_pos hp]
    exact ⟨rfl, rfl⟩
  | q :: r, i + 1, k, e, hp, hn => by
    have h0 : p q.1 = false := hn 0 q.1 (Nat.succ_pos _) rfl
    obtain ⟨i1, i2⟩ := setE_at (x := x) (es := r) (i := i) (k := k) e hp fun j k' hj hk => hn (j + 1) k' (Nat.succ_lt_succ hj) hk
    unfold setE
    rw [if_neg (by rw [h0]; exact Bool.false_ne_true)]
    exact ⟨congrArg (List.cons q.2) i1, congrArg (List.cons q.1) i2⟩
theorem lookup_at {m : Str} {d : D} : ∀ {fs : List (Str × V)} {es : List (Str × D)}, fs.map (·.1) = es.map (·.1) → es.lookup m = some d → ∃ (i : Nat) (k : Str), (es.map (·.1))[i]? = some k ∧ (m == k) = true ∧ (es.map (·.2))[i]? = some d ∧ (∀ v, (fs.map (·.2))[i]? = some v → fs.lookup m = some v) ∧ ∀ j k', j < i → (es.map (·.1))[j]? = some k' → (m == k') = false
  | [], [], _, h => by cases h
  | p :: r, q :: s, hk, h => by
    rw [List.map_cons, List.map_cons] at hk
    injection hk with h1 h2
    obtain ⟨pk, pv⟩ := p
    obtain ⟨qk, qv⟩ := q
    dsimp only at h1
    subst h1
    rw [List.lookup_cons] at h
    cases hb : m == pk with
    | true =>
      rw [hb] at h
      exact ⟨0, pk, rfl, hb, by simpa using h, fun v e => by rw [List.lookup_cons, hb]; simpa using e, fun j k' hj => absurd hj (Nat.not_lt_zero _)⟩
    | false =>
      rw [hb] at h
      obtain ⟨i, k, e1, e2, e3, e4, e5⟩ := lookup_at h2 h
      refine ⟨i + 1, k, by simpa using e1, e2, by simpa using e3, fun v e => by rw [List.lookup_cons, hb]; exact e4 v (by simpa using e), fun j k' hj e => ?_⟩
      cases j with
      | zero =>
        have e' : pk = k' := by simpa using e
        rw [← e']; exact hb
      | succ j => exact e5 j k' (Nat.lt_of_succ_lt_succ hj) (by simpa using e)
  | [], _ :: _, h, _ => by cases h
  | _ :: _, [], h, _ => by cases h
theorem get_at {κ : Type} [DecidableEq κ] {m : κ} {d : D} : ∀ {fs : List (κ × V)} {es : List (κ × D)}, fs.map (·.1) = es.map (·.1) → getD' es m = some d → ∃ (i : Nat) (k : κ), (es.map (·.1))[i]? = some k ∧ decide (k = m) = true ∧ (es.map (·.2))[i]? = some d ∧ (∀ v, (fs.map (·.2))[i]? = some v → valV fs m = some v) ∧ ∀ j k', j < i → (es.map (·.1))[j]? = some k' → decide (k' = m) = false
  | [], [], _, h => by cases h
  | p :: r, q :: s, hk, h => by
    rw [List.map_cons, List.map_cons] at hk
    injection hk with h1 h2
    by_cases c : q.1 = m
    · have hd : q.2 = d := by
        have : getD' (q :: s) m = some q.2 := by simp [getD', List.find?_cons, c]
        rw [this] at h; exact Option.some.inj h
      refine ⟨0, q.1, rfl, decide_eq_true c, by rw [← hd]; rfl, fun v e => ?_, fun j k' hj => absurd hj (Nat.not_lt_zero _)⟩
      have e' : p.2 = v := by simpa using e
      rw [← e']; exact valV_pos (h1.trans c)
    · have g : getD' (q :: s) m = getD' s m := by simp [getD', List.find?_cons, c]
      rw [g] at h
      obtain ⟨i, k, e1, e2, e3, e4, e5⟩ := get_at h2 h
      refine ⟨i + 1, k, by simpa using e1, e2, by simpa using e3, fun v e => by rw [valV_neg (fun z => c (h1.symm.trans z))]; exact e4 v (by simpa using e), fun j k' hj e => ?_⟩
      cases j with
      | zero =>
        have e' : q.1 = k' := by simpa using e
        rw [← e']; exact decide_eq_false c
      | succ j => exact e5 j k' (Nat.lt_of_succ_lt_succ hj) (by simpa using e)
  | [], _ :: _, h, _ => by cases h
  | _ :: _, [], h, _ => by cases h
/-- one step down -/
theorem Own.sub {v : V} {d e : D} {s : PSt} (o : Own K F H (n + 1) v d fp) (nd : fp.Nodup) (hB : ∀ a ∈ fp, a ∉ B) (h : subD d s = some e) :
    ∃ v' f', AtV B H v s v' ∧ Own K F H n v' e f' ∧ (∀ a ∈ f', a ∈ fp) ∧ f'.Nodup ∧ ∀ (H' : Hp) (e' : D) (g : List Addr), (∀ b ∈ fp, b ∉ f' → ∀ o, H b = some o → H' b = some o) → Own K F H' n v' e' g → (∀ b ∈ g, b ∈ f' ∨ b ∉ fp) → g.Nodup →
      ∃ fp', Own K F H' (n + 1) v (setD d s e') fp' ∧ fp'.Nodup ∧ ∀ b ∈ fp', b ∈ fp ∨ b ∈ g := by
  have fin : ∀ {a : Addr} {f f' g : List Addr} {vs : List V} {ds ds' : List D} {H' : Hp}, (a :: f).Nodup → (∀ b ∈ g, b ∈ f' ∨ b ∉ (a :: f)) → (∀ b ∈ f', b ∈ f) → (∀ b ∈ g, b ≠ a) := fun {a f f' g vs ds ds' H'} nd hs hf b hb z => by
    subst z
    rcases hs b hb with y | y
    · exact (List.nodup_cons.mp nd).1 (hf b y)
    · exact y List.mem_cons_self
  cases d <;> cases s <;> try (cases h; done)
  · -- list
    rename_i ds k
    obtain ⟨a, vs, f, rfl, h1, rfl, t⟩ := o
    obtain ⟨n1, n2⟩ := List.nodup_cons.mp nd
    obtain ⟨w, f', e1, e2, e3, e4, kk⟩ := t.at_ n2 h
    refine ⟨w, f', ⟨a, vs, rfl, hB a List.mem_cons_self, h1, e1⟩, e2, fun b hb => List.mem_cons_of_mem _ (e3 b hb), e4, fun H' e' g hH ho hs hn => ?_⟩
    have hga := fin (vs := []) (ds := []) (ds' := []) (H' := H') nd hs e3
    obtain ⟨fp', o', nd', sub⟩ := kk (Own K F H' n) e' g (fun w d l hl q => Own.mono (fun _ _ h => h) (fun b hb o e => hH b (List.mem_cons_of_mem _ (hl b hb).1) (hl b hb).2 o e) q) ho (fun b hb => (hs b hb).imp id fun z y => z (List.mem_cons_of_mem _ y)) hn
    refine ⟨a :: fp', ⟨a, vs, fp', rfl, hH a List.mem_cons_self (fun z => n1 (e3 a z)) _ h1, rfl, o'⟩, List.nodup_cons.mpr ⟨fun z => (sub a z).elim n1 fun y => hga a y rfl, nd'⟩, fun b hb => ?_⟩
    rcases List.mem_cons.mp hb with z | z
    · exact .inl (by rw [z]; exact List.mem_cons_self)
    · exact (sub b z).imp (fun y => List.mem_cons_of_mem _ y) id
  · -- dict
    rename_i es k
    obtain ⟨a, kvs, f, rfl, h1, rfl, hk, t⟩ := o
    obtain ⟨n1, n2⟩ := List.nodup_cons.mp nd
    obtain ⟨i, kk0, g1, g2, g3, g4, g5⟩ := get_at hk h
    obtain ⟨w, f', e1, e2, e3, e4, kk⟩ := t.at_ n2 g3
    refine ⟨w, f', ⟨a, kvs, rfl, hB a List.mem_cons_self, h1, g4 w e1⟩, e2, fun b hb => List.mem_cons_of_mem _ (e3 b hb), e4, fun H' e' g hH ho hs hn => ?_⟩
    have hga := fin (vs := []) (ds := []) (ds' := []) (H' := H') nd hs e3
    obtain ⟨fp', o', nd', sub⟩ := kk (Own K F H' n) e' g (fun w d l hl q => Own.mono (fun _ _ h => h) (fun b hb o e => hH b (List.mem_cons_of_mem _ (hl b hb).1) (hl b hb).2 o e) q) ho (fun b hb => (hs b hb).imp id fun z y => z (List.mem_cons_of_mem _ y)) hn
    obtain ⟨s1, s2⟩ := setE_at (p := fun g => decide (g = k)) (x := e') g1 g2 g5
    refine ⟨a :: fp', ⟨a, kvs, fp', rfl, hH a List.mem_cons_self (fun z => n1 (e3 a z)) _ h1, rfl, by rw [s2]; exact hk, by rw [s1]; exact o'⟩, List.nodup_cons.mpr ⟨fun z => (sub a z).elim n1 fun y => hga a y rfl, nd'⟩, fun b hb => ?_⟩
    rcases List.mem_cons.mp hb with z | z
    · exact .inl (by rw [z]; exact List.mem_cons_self)
    · exact (sub b z).imp (fun y => List.mem_cons_of_mem _ y) id
  · rename_i es k
    obtain ⟨a, kvs, f, rfl, h1, rfl, hk, t⟩ := o
    obtain ⟨n1, n2⟩ := List.nodup_cons.mp nd
    obtain ⟨i, kk0, g1, g2, g3, g4, g5⟩ := get_at hk h
    obtain ⟨w, f', e1, e2, e3, e4, kk⟩ := t.at_ n2 g3
    refine ⟨w, f', ⟨a, kvs, rfl, hB a List.mem_cons_self, h1, g4 w e1⟩, e2, fun b hb => List.mem_cons_of_mem _ (e3 b hb), e4, fun H' e' g hH ho hs hn => ?_⟩
    have hga := fin (vs := []) (ds := []) (ds' := []) (H' := H') nd hs e3
    obtain ⟨fp', o', nd', sub⟩ := kk (Own K F H' n) e' g (fun w d l hl q => Own.mono (fun _ _ h => h) (fun b hb o e => hH b (List.mem_cons_of_mem _ (hl b hb).1) (hl b hb).2 o e) q) ho (fun b hb => (hs b hb).imp id fun z y => z (List.mem_cons_of_mem _ y)) hn
    obtain ⟨s1, s2⟩ := setE_at (p := fun g => decide (g = k)) (x := e') g1 g2 g5
    refine ⟨a :: fp', ⟨a, kvs, fp', rfl, hH a List.mem_cons_self (fun z => n1 (e3 a z)) _ h1, rfl, by rw [s2]; exact hk, by rw [s1]; exact o'⟩, List.nodup_cons.mpr ⟨fun z => (sub a z).elim n1 fun y => hga a y rfl, nd'⟩, fun b hb => ?_⟩
    rcases List.mem_cons.mp hb with z | z
    · exact .inl (by rw [z]; exact List.mem_cons_self)
    · exact (sub b z).imp (fun y => List.mem_cons_of_mem _ y) id
  · rename_i C es k
    obtain ⟨a, dx, kvs, f, rfl, h1, rfl, hk, t⟩ := o
    obtain ⟨n1, n2⟩ := List.nodup_cons.mp nd
    obtain ⟨i, kk0, g1, g2, g3, g4, g5⟩ := lookup_at hk h
    obtain ⟨w, f', e1, e2, e3, e4, kk⟩ := t.at_ n2 g3
    refine ⟨w, f', ⟨a, C, dx, kvs, rfl, hB a List.mem_cons_self, h1, g4 w e1⟩, e2, fun b hb => List.mem_cons_of_mem _ (e3 b hb), e4, fun H' e' g hH ho hs hn => ?_⟩
    have hga := fin (vs := []) (ds := []) (ds' := []) (H' := H') nd hs e3
    obtain ⟨fp', o', nd', sub⟩ := kk (Own K F H' n) e' g (fun w d l hl q => Own.mono (fun _ _ h => h) (fun b hb o e => hH b (List.mem_cons_of_mem _ (hl b hb).1) (hl b hb).2 o e) q) ho (fun b hb => (hs b hb).imp id fun z y => z (List.mem_cons_of_mem _ y)) hn
    obtain ⟨s1, s2⟩ := setE_at (p := fun g => k == g) (x := e') g1 g2 g5
    refine ⟨a :: fp', ⟨a, dx, kvs, fp', rfl, hH a List.mem_cons_self (fun z => n1 (e3 a z)) _ h1, rfl, by rw [s2]; exact hk, by rw [s1]; exact o'⟩, List.nodup_cons.mpr ⟨fun z => (sub a z).elim n1 fun y => hga a y rfl, nd'⟩, fun b hb => ?_⟩
    rcases List.mem_cons.mp hb with z | z
    · exact .inl (by rw [z]; exact List.mem_cons_self)
    · exact (sub b z).imp (fun y => List.mem_cons_of_mem _ y) id
theorem Own.path : ∀ {p : List PSt} {v : V} {d e : D} {fp : List Addr}, Own K F H (n + p.length) v d fp → fp.Nodup → (∀ a ∈ fp, a ∉ B) → subP d p = some e →
    ∃ v' f', PathV B H v p v' ∧ Own K F H n v' e f' ∧ (∀ a ∈ f', a ∈ fp) ∧ f'.Nodup ∧ ∀ (H' : Hp) (e' : D) (g : List Addr), (∀ b ∈ fp, b ∉ f' → ∀ o, H b = some o → H' b = some o) → Own K F H' n v' e' g → (∀ b ∈ g, b ∈ f' ∨ b ∉ fp) → g.Nodup →
      ∃ fp', Own K F H' (n + p.length) v (setP d p e') fp' ∧ fp'.Nodup ∧ ∀ b ∈ fp', b ∈ fp ∨ b ∈ g
  | [], v, d, e, fp, o, nd, hB, h => by
    cases h
    exact ⟨v, fp, rfl, o, fun _ h => h, nd, fun H' e' g _ ho _ hn => ⟨g, ho, hn, fun b hb => .inr hb⟩⟩
  | s :: p, v, d, e, fp, o, nd, hB, h => by
    have o : Own K F H (n + p.length + 1) v d fp := o
    have h : (subD d s).bind (fun e => subP e p) = some e := h
    cases q : subD d s with
    | none => rw [q] at h; cases h
    | some x =>
      rw [q] at h
      obtain ⟨v1, f1, a1, o1, s1, n1, k1⟩ := o.sub nd hB q
      obtain ⟨v2, f2, a2, o2, s2, n2, k2⟩ := Own.path (p := p) o1 n1 (fun a ha => hB a (s1 a ha)) h
      refine ⟨v2, f2, ⟨v1, a1, a2⟩, o2, fun a ha => s1 a (s2 a ha), n2, fun H' e' g hH ho hs hn => ?_⟩
      obtain ⟨g1, o', nd', sub⟩ := k2 H' e' g (fun b hb hb' => hH b (s1 b hb) hb') ho (fun b hb => (hs b hb).imp id fun z y => z (s1 b y)) hn
      obtain ⟨g2, o3, nd3, sub3⟩ := k1 H' (setP x p e') g1 (fun b hb hb' => hH b hb fun z => hb' (s2 b z)) o' (fun b hb => by
        rcases sub b hb with z | z
        · exact .inl z
        · exact (hs b z).imp (s2 b) id) nd'
      refine ⟨g2, ?_, nd3, fun b hb => ?_⟩
      · show Own K F H' (n + p.length + 1) v (match subD d s with
          | some e => setD d s (setP e p e')
          | none => d) g2
        rw [q]
        exact o3
      · rcases sub3 b hb with z | z
        · exact .inl z
        · exact (sub b z).imp (s1 b) id
end
section
variable {K : PySem.W.Frag} {B fp : List Addr} {Pn : List V} {Z0 F0 F H : Hp} {σ : L2.St} {ρ : Env} {n i : Nat}
theorem StOk.path {d e : D} {p : List PSt} {P : Addr → HO → List Addr → Prop} (S : StOk K B Pn Z0 F0 F H σ ρ fp) (es : slot ρ i = some (n + 1 + p.length, d)) (hs : subP d p = some e)
    (hd : ∀ v f, Own K F H (n + 1) v e f → ∃ a g o, v = .ref a ∧ f = a :: g ∧ H a = some o ∧ P a o g) :
    ∃ v0 a g o, σ[i]? = some (some v0) ∧ PathV B H v0 p (.ref a) ∧ H a = some o ∧ P a o g ∧ a ∉ g ∧ g.Nodup ∧ (∀ b ∈ a :: g, b ∈ fp) ∧ ∀ o' e' g' fc, erO o' = o' → Apart B Z0 F fp fc → (∀ b ∈ g', b ∈ g ∨ b ∈ fc) → g'.Nodup →
      Own K F (upd H a o') (n + 1) (.ref a) e' (a :: g') → ∃ fp', StOk K B Pn Z0 F0 F (upd H a o') σ (ρ.set i (some (n + 1 + p.length, setP d p e'))) fp' := by
  obtain ⟨v, f, fp1, e1, e2, S1, ap1, sub⟩ := S.take es
  obtain ⟨v', f', pv, ow, s2, nd2, k⟩ := Own.path (B := B) e2 ap1.2 (fun a ha => (ap1.1 a ha).2.1) hs
  obtain ⟨a, g, o, rfl, rfl, ha, hP⟩ := hd v' f' ow
  obtain ⟨hag, hg⟩ := List.nodup_cons.mp nd2
  have haf : a ∈ f := s2 a List.mem_cons_self
  refine ⟨v, a, g, o, e1, pv, ha, hP, hag, hg, fun b hb => sub b (List.mem_append_right _ (s2 b hb)), fun o' e' g' fc ho ap hsub hn' ho' => ?_⟩
  obtain ⟨h1, h2, h3, h4⟩ := ap1.1 a haf
  have S2 := S1.mut h4 h1 h2 h3 ho
  have hi : i < (ρ.set i none).length := by rw [List.length_set]; exact slot_lt es
  have hac : a ∉ fc := fun z => (ap.1 a z).2.2.2 (sub a (List.mem_append_right _ haf))
  obtain ⟨fp', o3, nd3, sub3⟩ := k (upd H a o') e' (a :: g') (fun b hb hb' u eu => by rw [upd_ne (fun z => hb' (by rw [z]; exact List.mem_cons_self))]; exact eu) ho' (fun b hb => by
    rcases List.mem_cons.mp hb with z | z
    · exact .inl (by rw [z]; exact List.mem_cons_self)
    · rcases hsub b z with y | y
      · exact .inl (List.mem_cons_of_mem _ y)
      · exact .inr fun w => (ap.1 b y).2.2.2 (sub b (List.mem_append_right _ w))) (List.nodup_cons.mpr ⟨fun z => (hsub a z).elim hag hac, hn'⟩)
  have ap' : Apart B Z0 F fp1 fp' := by
    refine ⟨fun b hb => ?_, nd3⟩
    rcases sub3 b hb with q | q
    · exact ap1.1 b q
    · rcases List.mem_cons.mp q with z | z
      · rw [z]; exact ⟨h1, h2, h3, h4⟩
      · rcases hsub b z with q | q
        · exact ap1.1 b (s2 b (List.mem_cons_of_mem _ q))
        · obtain ⟨k1, k2, k3, k4⟩ := ap.1 b q
          exact ⟨k1, k2, k3, fun r => k4 (sub b (List.mem_append_left _ r))⟩
  obtain ⟨fp2, S3⟩ := S2.put (i := i) o3 ap' hi e1
  rw [List.set_set] at S3
  exact ⟨fp2, S3⟩
end
end GK

namespace GK
open PySem PySem.Spec PyProof.Rows L2

/-! ### an expression that names a place -/
abbrev FP := Env → (List PSt → Prop) → Prop
def tP (K : PySem.W.Frag) (B : List Addr) (i : Nat) (g : FP) : TE := fun σ H Q => ∃ F ρ fp R, StOk K B [] noH noH F H σ ρ fp ∧ g ρ R ∧
  ∀ F' H' p v v0, Step B [] F H F' H' → σ[i]? = some (some v0) → PathV B H' v0 p v → R p → Q v H'
abbrev DP (X : Cx) (B : List Addr) (e : Expr) (i : Nat) (g : FP) : Prop := PE X e (tP X.K B i g)
/-- what stands at a place -/
def atP (ρ : Env) (i : Nat) (p : List PSt) (k : Nat → D → D → Prop) : Prop := match slot ρ i with
  | some (m, d) => ∃ n e, m = n + 1 + p.length ∧ subP d p = some e ∧ k n d e
  | none => False
theorem atP.inv {ρ : Env} {i : Nat} {p : List PSt} {k : Nat → D → D → Prop} (h : atP ρ i p k) : ∃ n d e, slot ρ i = some (n + 1 + p.length, d) ∧ subP d p = some e ∧ k n d e := by
  unfold atP at h
  split at h
  · rename_i m d q
    obtain ⟨n, e, rfl, h1, h2⟩ := h
    exact ⟨n, d, e, q, h1, h2⟩
  · exact h.elim
section
variable {K : PySem.W.Frag} {B fp : List Addr} {Pn : List V} {Z0 F0 F H : Hp} {σ : L2.St} {ρ : Env} {n i : Nat}
/-- what is new is apart -/
theorem StOk.apart {F' : Hp} {fx : List Addr} (S : StOk K B Pn Z0 F0 F H σ ρ fp) (ox : ∀ a ∈ fx, (a ∈ ([] : List Addr) ∨ H a = none) ∧ F' a = none ∧ a ∉ B) (nx : fx.Nodup) : Apart B Z0 F' fp fx := by
  refine ⟨fun b hb => ?_, nx⟩
  obtain ⟨h1, h2, h3⟩ := ox b hb
  have hz : H b = none := h1.elim (fun z => by cases z) id
  refine ⟨h2, h3, ?_, fun hm => ?_⟩
  · cases q : Z0 b with
    | none => rfl
    | some u => rw [S.z b u q] at hz; cases hz
  · obtain ⟨u, eu, _⟩ := S.own.there b hm
    rw [hz] at eu; cases eu
/-- a value that a place names -/
theorem StOk.seen {d e : D} {p : List PSt} {v0 v : V} (S : StOk K B Pn Z0 F0 F H σ ρ fp) (es : slot ρ i = some (n + p.length, d)) (hv : σ[i]? = some (some v0)) (hs : subP d p = some e) (hp : PathV B H v0 p v) :
    ∃ f, Own K F H n v e f ∧ f.Nodup ∧ ∀ a ∈ f, a ∉ B := by
  obtain ⟨v1, f, fp1, e1, e2, S1, ap1, sub⟩ := S.take es
  rw [hv] at e1
  cases e1
  obtain ⟨v', f', pv, ow, s2, nd2, k⟩ := Own.path (B := B) e2 ap1.2 (fun a ha => (ap1.1 a ha).2.1) hs
  cases hp.det pv
  exact ⟨f', ow, nd2, fun a ha => (ap1.1 a (s2 a ha)).2.1⟩
end
section
variable {X : Cx} {e e2 : Expr} {i : Nat} {g : FP} {fe : FE} {pos p : Pos} {x : Str} {m2 : Mode}
theorem dp_var (i : Nat) (hN : NameOk X i x := by exact ⟨rfl, by first | exact Or.inl rfl | exact Or.inr (Or.inl rfl) | exact Or.inr (Or.inr rfl), by decide, by decide⟩) : DP X B (.Name x pos) i (fun ρ R => (slot ρ i).isSome = true ∧ R []) :=
  PE.imp (pe_var hN.1 hN.2 hN.3 hN.4) fun σ H Q ⟨F, ρ, fp, R, S, ⟨h0, hg⟩, k⟩ => by
    cases q : slot ρ i with
    | none => rw [q] at h0; cases h0
    | some z =>
      obtain ⟨v, f, e1, _⟩ := S.own.slot q
      exact ⟨v, e1, k F H [] v v (Step.refl S.wf) e1 rfl hg⟩
/-- .f -/
theorem dp_fld {C : Addr} {f : Str} (he : DP X B e i g) (c : Cls X.K C) (nf : NoAttr X.K C f) (hb : attributeBase e f X.env (eval e X.env) = eval e X.env := by rfl) :
    DP X B (.Attribute e f pos) i (fun ρ R => g ρ fun p => atP ρ i p fun _ _ x => (∃ es y, x = .obj C es ∧ es.lookup f = some y) ∧ R (p ++ [.fld f])) :=
  PE.imp (pe_fld he hb) fun σ H Q ⟨F, ρ, fp, R, S, hg, k⟩ => by
    refine ⟨F, ρ, fp, _, S, hg, fun F' H' p v v0 s hv hp hR => ?_⟩
    obtain ⟨n', d', x, es', hsub, ⟨ys, y, rfl, hl⟩, hR⟩ := hR.inv
    have S' := S.step s fun a h => (by cases h)
    obtain ⟨f1, ow, nd, hB⟩ := S'.seen es' hv hsub hp
    obtain ⟨w, f2, ⟨a, C', dx, fs, rfl, hb', ha, l⟩, _⟩ := ow.sub (s := .fld f) nd hB hl
    obtain ⟨a', dx', fs', g', e1, e2, e3, e4, _⟩ := ow
    cases e1
    rw [ha] at e2
    cases e2
    exact ⟨a, C, dx, fs, w, rfl, ha, c, nf, l, k F' H' (p ++ [.fld f]) w v0 s hv (hp.app (q := .fld f) ⟨a, C, dx, fs, rfl, hb', ha, l⟩) hR⟩
/-- [j] of a list -/
theorem dp_ix (he : DP X B e i g) (hj : DE X B e2 (.own 0) fe) (hs : PlainIx e2 := by exact fun _ _ => rfl) :
    DP X B (.Subscript e e2 pos) i (fun ρ R => g ρ fun p => fe ρ fun j => atP ρ i p fun _ _ x => ∃ ds j' k, x = .lst ds ∧ j = .int j' ∧ ixN ds.length j' = some k ∧ R (p ++ [.ix k])) :=
  PE.imp (pe_ix ix_seq he hj hs) fun σ H Q ⟨F, ρ, fp, R, S, hg, k⟩ => by
    refine ⟨F, ρ, fp, _, S, hg, fun F1 H1 p v v0 s1 hv hp hf => ⟨F1, ρ, fp, _, S.step s1 (fun a h => by cases h), hf, fun F2 H2 w j fj s2 hw oj nj hR => ?_⟩⟩
    obtain ⟨n', d', x, es', hsub, ⟨ds, j', kx, rfl, rfl, hk, hR⟩⟩ := hR.inv
    have S2 := (S.step s1 (fun a h => by cases h)).step s2 fun a h => (by cases h)
    have hp2 := hp.same s2.same
    obtain ⟨f1, ow, nd, hB⟩ := S2.seen es' hv hsub hp2
    obtain ⟨rfl, _⟩ := hw.int
    obtain ⟨a, vs, g', rfl, h1, rfl, t⟩ := ow
    have hlt : kx < ds.length := by
      unfold ixN at hk
      split at hk
      · split at hk
        · cases hk; omega
        · cases hk
      · split at hk
        · cases hk; omega
        · cases hk
    have hl := t.len
    obtain ⟨y, hv'⟩ : ∃ y, vs[kx]? = some y := ⟨_, List.getElem?_eq_getElem (by omega)⟩
    exact .inl ⟨a, vs, j', y, rfl, rfl, SqL.of h1, by unfold atI; rw [hl, hk]; exact hv', k F2 H2 (p ++ [.ix kx]) _ v0 (s1.trans s2 fun a h => (by cases h)) hv (hp2.app (q := .ix kx) ⟨a, vs, rfl, hB a List.mem_cons_self, h1, hv'⟩) hR⟩
/-- [k] of a dict -/
theorem dp_key (hu : X.A.units + 1 < cLine) (he : DP X B e i g) (hj : DE X B e2 (.own 0) fe) (hs : NoSl e2 := by exact fun _ _ => rfl) :
    DP X B (.Subscript e e2 pos) i (fun ρ R => g ρ fun p => fe ρ fun j => atP ρ i p fun _ _ x => (∃ es k y, x = .dK es ∧ keyOf j = some k ∧ getD' es k = some y ∧ R (p ++ [.key k])) ∨ ∃ es k y, x = .dT es ∧ keyT j = some k ∧ getD' es k = some y ∧ R (p ++ [.keyT k])) :=
  PE.imp (pe_dget hu he hj hs) fun σ H Q ⟨F, ρ, fp, R, S, hg, k⟩ => by
    refine ⟨F, ρ, fp, _, S, hg, fun F1 H1 p v v0 s1 hv hp hf => ⟨F1, ρ, fp, _, S.step s1 (fun a h => by cases h), hf, fun F2 H2 w j fj s2 hw oj nj hR => ?_⟩⟩
    obtain ⟨n', d', x, es', hsub, hR⟩ := hR.inv
    have S2 := (S.step s1 (fun a h => by cases h)).step s2 fun a h => (by cases h)
    have hp2 := hp.same s2.same
    obtain ⟨f1, ow, nd, hB⟩ := S2.seen es' hv hsub hp2
    rcases hR with ⟨ys, kk, y, rfl, ek, eg, hq⟩ | ⟨ys, kk, y, rfl, ek, eg, hq⟩
    · obtain ⟨w', f2, ⟨a, kvs, rfl, hb', ha, l⟩, _⟩ := ow.sub (s := .key kk) nd hB eg
      have ew := keyOf_R ek hw.1
      subst ew
      exact ⟨a, w', rfl, .inl ⟨kvs, kk, .inl ha, rfl, l.symm⟩, k F2 H2 (p ++ [.key kk]) _ v0 (s1.trans s2 fun a h => (by cases h)) hv (hp2.app (q := .key kk) ⟨a, kvs, rfl, hb', ha, l⟩) hq⟩
    · obtain ⟨w', f2, ⟨a, kvs, rfl, hb', ha, l⟩, _⟩ := ow.sub (s := .keyT kk) nd hB eg
      cases j <;> try (cases ek; done)
      obtain ⟨ta, ws, rfl, ht, hrl⟩ := hw.1.tupI
      have ew := keysOf_R ek hrl
      subst ew
      exact ⟨a, w', rfl, .inr ⟨kvs, kk, ta, .inl ha, rfl, tup_of S2.wf (S2.wf.sub _ _ ht), l.symm⟩, k F2 H2 (p ++ [.keyT kk]) _ v0 (s1.trans s2 fun a h => (by cases h)) hv (hp2.app (q := .keyT kk) ⟨a, kvs, rfl, hb', ha, l⟩) hq⟩
end
/-! what is done at a place -/
def atLst (ρ : Env) (i n : Nat) (p : List PSt) (k : D → List D → Prop) : Prop := atP ρ i p fun n' d e => n' = n ∧ match e with
  | .lst ds => k d ds
  | _ => False
theorem atLst.inv {ρ : Env} {i n : Nat} {p : List PSt} {k : D → List D → Prop} (h : atLst ρ i n p k) : ∃ d ds, slot ρ i = some (n + 1 + p.length, d) ∧ subP d p = some (.lst ds) ∧ k d ds := by
  obtain ⟨n', d, e, h1, h2, rfl, h3⟩ := atP.inv h
  cases e <;> try exact h3.elim
  exact ⟨d, _, h1, h2, h3⟩
def atDK (ρ : Env) (i n : Nat) (p : List PSt) (k : D → List (Key × D) → Prop) : Prop := atP ρ i p fun n' d e => n' = n ∧ match e with
  | .dK ds => k d ds
  | _ => False
theorem atDK.inv {ρ : Env} {i n : Nat} {p : List PSt} {k : D → List (Key × D) → Prop} (h : atDK ρ i n p k) : ∃ d ds, slot ρ i = some (n + 1 + p.length, d) ∧ subP d p = some (.dK ds) ∧ k d ds := by
  obtain ⟨n', d, e, h1, h2, rfl, h3⟩ := atP.inv h
  cases e <;> try exact h3.elim
  exact ⟨d, _, h1, h2, h3⟩
def atDT (ρ : Env) (i n : Nat) (p : List PSt) (k : D → List (List Key × D) → Prop) : Prop := atP ρ i p fun n' d e => n' = n ∧ match e with
  | .dT ds => k d ds
  | _ => False
theorem atDT.inv {ρ : Env} {i n : Nat} {p : List PSt} {k : D → List (List Key × D) → Prop} (h : atDT ρ i n p k) : ∃ d ds, slot ρ i = some (n + 1 + p.length, d) ∧ subP d p = some (.dT ds) ∧ k d ds := by
  obtain ⟨n', d, e, h1, h2, rfl, h3⟩ := atP.inv h
  cases e <;> try exact h3.elim
  exact ⟨d, _, h1, h2, h3⟩
section
variable {X : Cx} {e e2 o : Expr} {pin n i : Nat} {m mr : Mode} {f : FM} {fe fv : FE} {g : FP} {pos p apos cpos : Pos}
/-- P.append(e) -/
theorem dm_appendP (n : Nat) (ho : DP X B o i g) (he : DE X B e (.own n) fe) (hb : BmOk X o "append" apos e [] cpos := by exact ⟨rfl, rfl, rfl, rfl, rfl⟩) :
    DM X B (.Call (.Attribute o "append" apos) [e] [] cpos) pin m (fun ρ R => g ρ fun p => (atLst ρ i n p fun _ _ => True) ∧ fe ρ fun x => atLst ρ i n p fun d ds => ds.length < sizeLine ∧ R .non (ρ.set i (some (n + 1 + p.length, setP d p (.lst (ds ++ [x])))))) :=
  PE.imp (pe_bm PySem.F.plainAttrs_list PySem.F.slot_list_append PySem.F.type_list_append mt_append ho (pa_cons he pa_nil hb.4) hb.1 hb.2 hb.3 hb.4 hb.5) fun σ H Q ⟨Pn, Z0, F0, F, ρ, fp, R, hpl, S, hg, k⟩ => by
    refine ⟨F, ρ, fp, _, S.base, hg, fun F1 H1 p v v0 s1 hv0 hp ⟨h0, hf⟩ => ?_⟩
    have S1 := S.step s1 fun a h => (by cases h)
    obtain ⟨d, ds, es, hs, _⟩ := h0.inv
    obtain ⟨v1, a, gg, o', hv1, pv, ha, ⟨vs, rfl, _⟩, _⟩ := S1.path es hs own_lst
    rw [hv0] at hv1
    cases hv1
    cases hp.det pv
    refine ⟨.inl ⟨rfl, _, SqL.of ha⟩, F1, ρ, fp, _, S1.base, hf, fun F2 H2 w x fx s2 hw ox nx hx => ?_⟩
    have S2 := S1.step s2 fun a h => (by cases h)
    obtain ⟨d', ds', es', hs', hz, hR⟩ := hx.inv
    obtain ⟨v2, a2, g2, o2, hv2, pv2, ha2, ⟨vs2, rfl, t2⟩, hag, hgn, hin, kk⟩ := S2.path es' hs' own_lst
    rw [hv0] at hv2
    cases hv2
    cases (hp.same s2.same).det pv2
    have ap : Apart B Z0 F2 fp fx := S1.apart ox nx
    have hax : a ∉ fx := fun z => (ap.1 a z).2.2.2 (hin a List.mem_cons_self)
    obtain ⟨fp3, S3⟩ := kk (.lst (vs2 ++ [w])) (.lst (ds' ++ [x])) (g2 ++ fx) fx rfl ap (fun b hb => List.mem_append.mp hb) (nd_of hgn nx fun b hb z => (ap.1 b hb).2.2.2 (hin b (List.mem_cons_of_mem _ z)))
      ⟨a, vs2 ++ [w], g2 ++ fx, rfl, upd_same, rfl, (t2.upd hag).append (OwnL.one (Own.upd (show Own X.K F2 H2 n w x fx from hw) hax))⟩
    exact ⟨a, vs2, w, rfl, rfl, ha2, by rw [t2.len]; exact hz, k F2 _ _ fp3 .non .non [] S3 (Val.atom rfl fun _ => .non) .nil hR⟩
end
end GK

namespace GK
open PySem PySem.Spec PyProof.Rows L2

section
variable {X : Cx} {e e2 o : Expr} {pin n i : Nat} {m mr : Mode} {f : FM} {fe fv : FE} {g : FP} {pos p apos cpos : Pos}
/-- P[j] = e, P a list -/
theorem ds_setPL (n : Nat) (he : DM X B e pin (.own n) f) (ho : DP X B o i g) (hj : DE X B e2 (.own 0) fe)
    (ha : ∀ v, assign (.Subscript o e2 apos) X.env v = (do
      let ov ← holding [v] (eval o X.env)
      let iv ← holding [v, ov] (eval e2 X.env)
      standAt apos
      holding [v, ov, iv] (setItem ov iv v)
      release [v, ov, iv] []) := by intro _; rfl)
    (hs : swapsWithSole [.Subscript o e2 apos] e pos.line X.env = pure false := by rfl) (hw : swappedStores [.Subscript o e2 apos] e X.env = pure none := by rfl)
    (h1 : (assignEach [.Subscript o e2 apos] X.env).map (·.2) = [assign (.Subscript o e2 apos) X.env] := by rfl) :
    DS X B (.Assign [.Subscript o e2 apos] e pos) pin mr (fun E ρ => f ρ fun x ρ' => g ρ' fun p => fe ρ' fun j => atLst ρ' i n p fun d ds => ∃ j' k, j = .int j' ∧ ixN ds.length j' = some k ∧ E.nx (ρ'.set i (some (n + 1 + p.length, setP d p (.lst (ds.set k x)))))) :=
  PS.imp (ps_asg he (pg_sub ho hj set_list ha) hs hw h1) fun Dn σ H ⟨Pn, Z0, F0, F, ρ, fp, E, hpl, S, hf, L⟩ => by
    refine ⟨Pn, Z0, F0, F, ρ, fp, _, hpl, S, hf, fun F' H' ρ' fp' v x f' S' hv ap hg => ?_⟩
    refine ⟨F', ρ', fp', _, S'.base, hg, fun F1 H1 p w v0 s1 hv0 hp hf => ?_⟩
    have S1 := S'.step s1 fun a h => (by cases h)
    refine ⟨F1, ρ', fp', _, S1.base, hf, fun F2 H2 y j fj s2 hw oj nj hR => ?_⟩
    have S2 := S1.step s2 fun a h => (by cases h)
    obtain ⟨d, ds, es, hs, j', kx, rfl, hk, hR⟩ := hR.inv
    obtain ⟨rfl, _⟩ := hw.int
    obtain ⟨v2, a, g2, o2, hv2, pv2, ha2, ⟨vs, rfl, t⟩, hag, hgn, hin, kk⟩ := S2.path es hs own_lst
    rw [hv0] at hv2
    cases hv2
    cases (hp.same s2.same).det pv2
    have s12 := s1.trans s2 fun a h => (by cases h)
    have ap2 : Apart B Z0 F2 fp' f' := ⟨fun b hb => by
      obtain ⟨q1, q2, q3, q4⟩ := ap.1 b hb
      obtain ⟨o, eo, mu⟩ := hv.there b hb
      exact ⟨s12.out eo mu q2 q1 (fun z => (by cases z)), q2, q3, q4⟩, ap.2⟩
    have hv2 : Own X.K F2 H2 n v x f' := Val.step (m := .own n) hv s12 fun b hb => (ap.1 b hb).2.1
    have haf : a ∉ f' := fun z => (ap2.1 a z).2.2.2 (hin a List.mem_cons_self)
    obtain ⟨g3, o3, sub, nd⟩ := OwnL.set hv2 kx t (nd_of hgn ap.2 fun b hb z => (ap2.1 b hb).2.2.2 (hin b (List.mem_cons_of_mem _ z)))
    have hag3 : a ∉ g3 := fun z => (sub a z).elim hag haf
    obtain ⟨fp3, S3⟩ := kk (.lst (vs.set kx v)) (.lst (ds.set kx x)) g3 f' rfl ap2 sub nd ⟨a, vs.set kx v, g3, rfl, upd_same, rfl, o3.upd hag3⟩
    exact ⟨a, vs, j', kx, rfl, rfl, ha2, by rw [t.len]; exact hk, L.nx F2 _ _ _ fp3 S3 hR⟩
/-- P[k] = e, P a dict, what is kept may be read -/
theorem ds_putP (hu : X.A.units + 1 < cLine) (he : DM X B e pin (.own 0) f) (ho : DP X B o i g) (hj : DE X B e2 (.own 0) fe) (hs : swapsWith e (some (.Subscript o e2 apos)) pos.line X.env = pure false := by rfl) :
    DS X B (.Assign [.Subscript o e2 apos] e pos) pin mr (fun E ρ => f ρ fun x ρ' => g ρ' fun p => fe ρ' fun j => atP ρ' i p fun n' d y => n' = 0 ∧ ∃ y', putDD y j x = some y' ∧ E.nx (ρ'.set i (some (1 + p.length, setP d p y')))) :=
  PS.imp (ps_dput hu ho hj he hs) fun Dn σ H ⟨Pn, Z0, F0, F, ρ, fp, E, hpl, S, hf, L⟩ => by
    refine ⟨Pn, Z0, F0, F, ρ, fp, _, hpl, S, hf, fun F' H' ρ' fp' v x f' S' hv ap hg => ?_⟩
    refine ⟨F', ρ', fp', _, S'.base, hg, fun F1 H1 p w v0 s1 hv0 hp hf => ?_⟩
    have S1 := S'.step s1 fun a h => (by cases h)
    refine ⟨F1, ρ', fp', _, S1.base, hf, fun F2 H2 y j fj s2 hw oj nj hR => ?_⟩
    have S2 := S1.step s2 fun a h => (by cases h)
    obtain ⟨n', d, y0, es, hs, rfl, y', hy, hR⟩ := hR.inv
    have s12 := s1.trans s2 fun a h => (by cases h)
    obtain ⟨hv0', rfl⟩ := (show Own X.K F' H' 0 v x f' from hv)
    have hx := R.mono s12.fs hv0'
    have hpp := hp.same s2.same
    cases y0 <;> try (cases hy; done)
    · rename_i ys
      obtain ⟨v2, a, g2, o2, hv2, pv2, ha2, ⟨kvs, rfl, hk, t⟩, hag, hgn, hin, kk⟩ := S2.path es hs own_dK
      rw [hv0] at hv2
      cases hv2
      cases hpp.det pv2
      obtain ⟨u, dp, eu, ow⟩ := dput_ok (Da := a) (acc := .dK ys) S2.wf (show Own X.K F2 H2 1 (.ref a) (.dK ys) [a] from ⟨a, kvs, [], rfl, ha2, rfl, hk, OwnL.zero t.toRL0⟩) hw.1 hx hy
      obtain ⟨fp3, S3⟩ := kk u y' [] [] eu .nil (fun b h => (by cases h)) List.nodup_nil ow
      exact ⟨a, _, rfl, dp, L.nx F2 _ _ _ fp3 S3 (by rw [Nat.zero_add]; exact hR)⟩
    · rename_i ys
      obtain ⟨v2, a, g2, o2, hv2, pv2, ha2, ⟨kvs, rfl, hk, t⟩, hag, hgn, hin, kk⟩ := S2.path es hs own_dT
      rw [hv0] at hv2
      cases hv2
      cases hpp.det pv2
      obtain ⟨u, dp, eu, ow⟩ := dput_ok (Da := a) (acc := .dT ys) S2.wf (show Own X.K F2 H2 1 (.ref a) (.dT ys) [a] from ⟨a, kvs, [], rfl, ha2, rfl, hk, OwnL.zero t.toRL0⟩) hw.1 hx hy
      obtain ⟨fp3, S3⟩ := kk u y' [] [] eu .nil (fun b h => (by cases h)) List.nodup_nil ow
      exact ⟨a, _, rfl, dp, L.nx F2 _ _ _ fp3 S3 (by rw [Nat.zero_add]; exact hR)⟩
end
end GK

namespace GK
open PySem PySem.Spec PyProof.Rows L2

/-! ### texts -/
/-- a text times an int -/
def repS (z : Str) (n : Int) : Str := ⟨((List.replicate n.toNat z.cps.toList).flatten).toArray⟩
theorem foldl_app (l : List (Array Nat)) : ∀ (a : Array Nat), (l.foldl (· ++ ·) a).toList = a.toList ++ (l.map Array.toList).flatten := by
  induction l with
  | nil => intro a; simp
  | cons x r ih => intro a; rw [List.foldl_cons, ih]; simp
theorem repS_of (z : Str) (n : Int) : (⟨(List.replicate n.toNat z.cps).foldl (· ++ ·) #[]⟩ : Str) = repS z n := by
  unfold repS
  congr 1
  apply Array.toList_inj.mp
  rw [foldl_app, List.map_replicate]
  simp
theorem repS_len (z : Str) (n : Int) : (repS z n).length = n.toNat * z.length := by
  unfold repS Str.length
  simp
theorem op_repS {X : Cx} : OpR X (binaryOp .Mult) (fun x y H Q => ∃ z n, x = .str z ∧ y = .int n ∧ -(2 ^ 63) ≤ n ∧ n < 2 ^ 63 ∧ n.toNat * z.length ≤ sizeLine ∧ Q (.str (repS z n)) H) := by
  intro pins s σ H x y v u Q I rx ry ⟨z, n, e1, e2, h1, h2, h3, q⟩
  subst e1
  subst e2
  obtain ⟨t, rfl⟩ := rx
  obtain ⟨t', rfl⟩ := ry
  have hs : (sizeLine : Nat) = 16777216 := by decide
  have fin : ∀ (w : Str), w = repS z n → (w.length ≤ sizeLine ∧ EP X pins σ Q (.str w s.toks) { s with toks := s.toks + 1 }) := fun w e => by
    subst e
    exact ⟨by rw [repS_len]; exact h3, .str _, H, I.tok _, ⟨_, rfl⟩, q⟩
  refine PySem.P.mul_str ?_ (fun g1 _ => ?_) (fun g1 _ => ?_) ?_
  · rw [decide_eq_false (by omega), decide_eq_false (by omega)]; rfl
  · have hn : (n.toNat : Int) = n := Int.toNat_of_nonneg (by omega)
    have hp : 0 < n := by omega
    have hh : ((n.toNat * z.length : Nat) : Int) ≤ 16777216 := by omega
    have h4 : (z.length : Int) * n ≤ 2 ^ 63 - 1 := by
      rw [← hn, Int.mul_comm]
      rw [Int.natCast_mul] at hh
      omega
    have := Int.le_ediv_of_mul_le hp h4
    omega
  · have : ¬ (z.length * n.toNat > sizeLine) := by rw [Nat.mul_comm]; omega
    unfold Builtin.Str.tooLong
    exact decide_eq_false this
  · split
    · rename_i hlt
      refine fin Str.empty ?_
      have h0 : n.toNat = 0 := by omega
      unfold repS
      rw [h0]
      rfl
    · split
      · rename_i hn1 hc
        refine ⟨.str z, H, I, ⟨_, rfl⟩, ?_⟩
        have e : repS z n = z := by
          rw [Bool.or_eq_true] at hc
          unfold repS
          rcases hc with hc | hc
          · have : n = 1 := by simpa using hc
            subst this
            simp
          · have h0 : z.length = 0 := by simpa using hc
            have h0' : z.cps = #[] := by
              apply Array.eq_empty_of_size_eq_zero
              exact h0
            have ez : z = ⟨#[]⟩ := by cases z; simp_all
            rw [ez]
            simp
        rw [e] at q
        exact q
      · exact fin _ (repS_of z n)
def gCatS : D → D → (D → Prop) → Prop
  | .str a, .str b, R => a.length + b.length ≤ sizeLine ∧ R (.str (a ++ b))
  | _, _, _ => False
def gRepS : D → D → (D → Prop) → Prop
  | .str a, .int n, R => -(2 ^ 63) ≤ n ∧ n < 2 ^ 63 ∧ n.toNat * a.length ≤ sizeLine ∧ R (.str (repS a n))
  | _, _, _ => False
section
variable {X : Cx} {a b e : Expr} {pos apos cpos : Pos} {m m1 m2 : Mode} {f f' : FE}
theorem de_catS (ha : DE X B a m1 f) (hb : DE X B b m2 f') : DE X B (.BinOp a .Add b pos) m (fBin gCatS f f') := de_op op_add_str (by
  intro B F H x y d e fp R Q w ⟨f1, f2, ef, hx, hy⟩ _ hg k
  cases d <;> cases e <;> try exact (show False from hg).elim
  obtain ⟨rfl, _⟩ := hx.str
  obtain ⟨rfl, _⟩ := hy.str
  exact ⟨_, _, rfl, rfl, hg.1, k.str w hg.2⟩) ha hb
theorem de_repS (ha : DE X B a m1 f) (hb : DE X B b m2 f') : DE X B (.BinOp a .Mult b pos) m (fBin gRepS f f') := de_op op_repS (by
  intro B F H x y d e fp R Q w ⟨f1, f2, ef, hx, hy⟩ _ hg k
  cases d <;> cases e <;> try exact (show False from hg).elim
  obtain ⟨rfl, _⟩ := hx.str
  obtain ⟨rfl, _⟩ := hy.int
  exact ⟨_, _, rfl, rfl, hg.1, hg.2.1, hg.2.2.1, k.str w hg.2.2.2⟩) ha hb
def strD : D → Prop
  | .str _ => True
  | _ => False
def gFind : D → List D → (D → Prop) → Prop
  | .str a, [.str b], R => R (.int (Txt.find a b))
  | _, _, _ => False
/-- z.find(y) -/
theorem de_find {o : Expr} (ho : DE X B o m1 f) (ha : DE X B e m2 f') (hb : BmOk X o "find" apos e [] cpos := by exact ⟨rfl, rfl, rfl, rfl, rfl⟩) : DE X B (.Call (.Attribute o "find" apos) [e] [] cpos) m (fun ρ R => f ρ fun d => strD d ∧ fCons f' fNil ρ fun ds => gFind d ds R) :=
  de_M PySem.F.plainAttrs_str PySem.F.slot_str_find PySem.F.type_str_find mt_find ⟨fun B F H x d fp w hv hf h => by
    cases d <;> try exact h.elim
    obtain ⟨rfl, _⟩ := hv.str
    exact (rfl : "str" = "str"), fun B F H x d vs ds fp R Q w ⟨f1, f2, ef, hx, hv⟩ hf hg k => by
    unfold gFind at hg
    split at hg
    · obtain ⟨rfl, _⟩ := hx.str
      obtain ⟨v, rfl, hw⟩ := ValL.one hv
      obtain ⟨rfl, _⟩ := hw.str
      exact ⟨_, _, rfl, rfl, k.int w hg⟩
    · exact hg.elim⟩ ho (da_cons ha da_nil hb.4) hb
end
end GK

namespace GK
open PySem PySem.Spec PyProof.Rows L2

/-! ### sorted, list, sum, isinstance, in -/
def leD : D → D → Bool := PySem.W.dataLe false toP
inductive Pr (P : V → D → Prop) : List V → List D → Prop where
  | nil : Pr P [] []
  | cons {v : V} {d : D} {vs : List V} {ds : List D} (h : P v d) (t : Pr P vs ds) : Pr P (v :: vs) (d :: ds)
theorem each_pr {P : V → D → Prop} : ∀ {us : List Value} {ds : List D}, PySem.W.EachIs (fun u d => ∃ v, RelV v u ∧ P v d) us ds → ∃ vs, Vals vs us ∧ Pr P vs ds
  | _, _, .nil => ⟨[], .nil, .nil⟩
  | _, _, .cons ⟨v, r, p⟩ t => by
    obtain ⟨vs, h1, h2⟩ := each_pr t
    exact ⟨v :: vs, .cons r h1, .cons p h2⟩
theorem pr_each {P : V → D → Prop} : ∀ {vs : List V} {us : List Value} {ds : List D}, Vals vs us → Pr P vs ds → PySem.W.EachIs (fun u d => ∃ v, RelV v u ∧ P v d) us ds
  | _, _, _, .nil, .nil => .nil
  | _, _, _, .cons r t, .cons p q => .cons ⟨_, r, p⟩ (pr_each t q)
def rSortD (K : PySem.W.Frag) : List V → Hp → VK → Prop := fun vs H Q => ∃ (a : Addr) (xs : List V) (ds : List D) (P : V → D → Prop), vs = [.ref a] ∧ SqL K H a xs ∧ Pr P xs ds ∧ (∀ v d, P v d → d ∈ ds → Dp K H v (toP d)) ∧
  PySem.W.AllAlike (ds.map toP) ∧ PySem.W.Sortable (ds.map toP) ∧ (∀ d ∈ ds, (toP d).depth ≤ 64) ∧ ∀ ys p, Pr P ys (ds.mergeSort leD) → H p = none → Q (.ref p) (upd H p (.lst ys))
theorem each_memD {R : Value → D → Prop} : ∀ {us : List Value} {ds : List D}, PySem.W.EachIs R us ds → PySem.W.EachIs (fun u d => R u d ∧ d ∈ ds) us ds
  | _, _, .nil => .nil
  | _, _, .cons h t => .cons ⟨h, List.mem_cons_self⟩ ((each_memD t).mono fun _ _ ⟨a, b⟩ => ⟨a, List.mem_cons_of_mem _ b⟩)
theorem cr_sortD {X : Cx} (hu : X.A.units + 67 < cLine) : CallR X (.builtin "sorted") (rSortD X.K) := by
  intro pins s σ H vs us Q I r ⟨a, xs, ds, P, e, hs, hp, hd, hal, hso, hde, q⟩
  subst e
  obtain ⟨its, rv, hl, hz⟩ := I.list hs
  rw [Vals.ref1 r]
  have ev := pr_each rv hp
  have er : PySem.W.EachIs (fun u d => ∃ as, Reads s.heap u (toP d) as) its ds := (each_memD ev).mono fun u d ⟨⟨v, r, p⟩, hm⟩ => Dp.reads I (toP d) v u (hd v d p hm) r
  have lz : ds.length ≤ sizeLine := by rw [← ev.length, ← rv.length]; exact hz
  refine PySem.W.sorted_data hl.isList ev er hal hso lz (fun d hm => by have := hde d hm; omega) fun out hlen eo => ?_
  obtain ⟨ys, h1, h2⟩ := each_pr eo
  obtain ⟨ep, he'⟩ := PyProof.Rows.sortedAll_at s.heap its out.toArray
  exact ⟨.ref _, upd H (s.heap.objs.size + 1) (.lst ys), I.laid (t' := s.toks) (fun _ _ => PyProof.Rows.sortedAll_old) (Nat.le_succ _) ⟨by rw [h1.length, hlen]; exact lz, out, ep, h1, he'⟩, rfl, q _ _ h2 (I.hok.fresh (Nat.le_succ _))⟩
theorem pr_rl {K : PySem.W.Frag} {F : Hp} : ∀ {vs : List V} {ds : List D}, Pr (R K F) vs ds → RL K F vs ds
  | _, _, .nil => .nil
  | _, _, .cons h t => .cons h (pr_rl t)
theorem rl_pr {K : PySem.W.Frag} {F : Hp} : ∀ {vs : List V} {ds : List D}, RL K F vs ds → Pr (R K F) vs ds
  | _, _, .nil => .nil
  | _, _, .cons h t => .cons h (rl_pr t)
def sortOk (ds : List D) : Prop := (∀ d ∈ ds, okD 64 d = true) ∧ PySem.W.AllAlike (ds.map toP) ∧ PySem.W.Sortable (ds.map toP)
def gSort : List D → (D → Prop) → Prop
  | [.lst ds], R => sortOk ds ∧ R (.lst (ds.mergeSort leD))
  | _, _ => False
theorem opN_sort {K : PySem.W.Frag} {m1 : Mode} (h1 : m1.flat1 = true) : OpN K (rSortD K) [m1] (.own 1) gSort := by
  intro B F H vs ds fp R Q w hv hf hg k
  unfold gSort at hg
  split at hg
  · obtain ⟨v, rfl, h⟩ := hv.one
    obtain ⟨a, xs, rfl, ha, r⟩ := h.lstRL h1 w
    exact ⟨a, xs, _, GK.R K F, rfl, SqL.of ha, rl_pr r, fun v d r hm => GK.R.dp (hg.1.1 d hm) (r.mono w.sub), hg.1.2.1, hg.1.2.2, fun d hm => (okD_can (hg.1.1 d hm)).2, fun ys p hy hz => k.newLst0 w (pr_rl hy) hg.2 hz⟩
  · exact hg.elim
def gListL : List D → (D → Prop) → Prop
  | [.lst ds], R => R (.lst ds)
  | _, _ => False
def gListT : List D → (D → Prop) → Prop
  | [.tup ds], R => R (.lst ds)
  | _, _ => False
def gListK : List D → (D → Prop) → Prop
  | [d], R => ∃ ks, keysD d = some ks ∧ R (.lst ks)
  | _, _ => False
theorem opN_listL {K : PySem.W.Frag} {m1 : Mode} (h1 : m1.flat1 = true) : OpN K (fun xs H Q => ∃ p ys, xs = [.ref p] ∧ (SqL K H p ys ∨ SqT K H p ys) ∧ ∀ l, H l = none → Q (.ref l) (upd H l (.lst ys))) [m1] (.own 1) gListL := by
  intro B F H vs ds fp R Q w hv hf hg k
  unfold gListL at hg
  split at hg
  · obtain ⟨v, rfl, h⟩ := hv.one
    obtain ⟨a, xs, rfl, ha, r⟩ := h.lstRL h1 w
    exact ⟨a, xs, rfl, .inl (SqL.of ha), fun l hl => k.newLst0 w r hg hl⟩
  · exact hg.elim
theorem opN_listT {K : PySem.W.Frag} : OpN K (fun xs H Q => ∃ p ys, xs = [.ref p] ∧ (SqL K H p ys ∨ SqT K H p ys) ∧ ∀ l, H l = none → Q (.ref l) (upd H l (.lst ys))) [.own 0] (.own 1) gListT := by
  intro B F H vs ds fp R Q w hv hf hg k
  unfold gListT at hg
  split at hg
  · obtain ⟨v, rfl, h⟩ := hv.one
    obtain ⟨a, xs, rfl, ha, r⟩ := (show GK.R K F v _ from h.1).tupI
    exact ⟨a, xs, rfl, .inr (sqT_rd (w.sub _ _ ha)), fun l hl => k.newLst0 w r hg hl⟩
  · exact hg.elim
theorem BagOk.noTup {B : List Addr} {H : Hp} (b : BagOk B H) {a : Addr} {vs : List V} (h : H a = some (.tup vs)) : a ∉ B := by
  intro hm
  rcases b with e | ⟨b, c, l, ts, cells, left, turn, e, ht, h1, h2, h3, _⟩
  · rw [e] at hm; cases hm
  · rw [e] at hm
    rcases List.mem_cons.mp hm with z | hm
    · subst z; rw [h1] at h; cases h
    · rcases List.mem_cons.mp hm with z | hm
      · subst z; rw [h2] at h; cases h
      · rcases List.mem_cons.mp hm with z | hm
        · subst z; rw [h3] at h; cases h
        · obtain ⟨o, xs, q⟩ := ht a hm
          rw [q] at h; cases h
theorem keys_rl {K : PySem.W.Frag} {G H : Hp} (hG : ∀ a vs, H a = some (.tup vs) → G a = some (.tup vs)) : ∀ {kvs : List (List Key × V)} {bs : List Addr}, Paired (fun p b => H b = some (.tup (p.1.map kV))) kvs bs → RL K G (bs.map V.ref) (kvs.map fun p => D.tup (p.1.map keyD))
  | _, _, .nil => .nil
  | _, _, .cons h t => .cons (.tup (hG _ _ h) (keysD_RL _)) (keys_rl hG t)
theorem opN_listK {K : PySem.W.Frag} {m1 : Mode} (h1 : m1.look = true) : OpN K (fun xs H Q => (∃ (a : Addr) (kvs : List (Key × V)), xs = [.ref a] ∧ Rd H a (.dK kvs) ∧ ∀ p, H p = none → Q (.ref p) (upd H p (.lst (kvs.map fun kv => kV kv.1)))) ∨
    ∃ d kvs, xs = [V.ref d] ∧ Rd H d (.dT kvs) ∧ ∀ p bs, H p = none → IsKeys H kvs bs → Q (.ref p) (upd H p (.lst (bs.map V.ref)))) [m1] (.own 1) gListK := by
  intro B F H vs ds fp R Q w hv hf hg k
  unfold gListK at hg
  split at hg
  · rename_i d
    obtain ⟨ks, ek, hR⟩ := hg
    obtain ⟨v, rfl, h⟩ := hv.one
    cases d <;> try (cases ek; done)
    · rename_i es
      obtain ⟨_, a, kvs, rfl, hr, hk, it⟩ := h.dK h1 w
      have ek' := Option.some.inj ek
      subst ek'
      refine .inl ⟨a, kvs, rfl, hr, fun p hp => ?_⟩
      have e1 : (kvs.map fun kv => kV kv.1) = (kvs.map (·.1)).map kV := by rw [List.map_map]; rfl
      have e2 : (es.map fun e => keyD e.1) = (es.map (·.1)).map keyD := by rw [List.map_map]; rfl
      rw [e1, hk]
      rw [e2] at hR
      exact k.newLst0 w (keysD_RL _) hR hp
    · rename_i es
      obtain ⟨_, a, kvs, rfl, hr, hk, it⟩ := h.dT h1 w
      have ek' := Option.some.inj ek
      subst ek'
      refine .inr ⟨a, kvs, rfl, hr, fun p bs hp hb => ?_⟩
      have e2 : (es.map fun e => D.tup (e.1.map keyD)) = kvs.map fun e => D.tup (e.1.map keyD) := by
        have : ∀ (l : List (List Key)), (l.map fun k => D.tup (k.map keyD)) = l.map fun k => D.tup (k.map keyD) := fun _ => rfl
        have a1 : (es.map fun e => D.tup (e.1.map keyD)) = (es.map (·.1)).map fun k => D.tup (k.map keyD) := by rw [List.map_map]; rfl
        have a2 : (kvs.map fun e => D.tup (e.1.map keyD)) = (kvs.map (·.1)).map fun k => D.tup (k.map keyD) := by rw [List.map_map]; rfl
        rw [a1, a2, hk]
      rw [e2] at hR
      have s := (Step.refl (A := fp) w).addT
      exact (k.after s (A1 := fp) fun a ha => .inl ha).newLst0 s.wf (keys_rl (fun a vs h => addT_tup w.sub (rdH_of (w.bag.noTup h) h rfl)) hb) hR hp
  · exact hg.elim
def intsOf : List D → Option (List Int)
  | [] => some []
  | .int i :: ds => (intsOf ds).map (i :: ·)
  | _ => none
theorem ints_of {ds : List D} {ns : List Int} (h : intsOf ds = some ns) : ds = ns.map D.int := by
  induction ds generalizing ns with
  | nil => cases h; rfl
  | cons d r ih =>
    cases d <;> try (cases h; done)
    rename_i i
    have h : (intsOf r).map (i :: ·) = some ns := h
    cases q : intsOf r with
    | none => rw [q] at h; cases h
    | some l =>
      rw [q] at h
      cases h
      rw [ih q]; rfl
theorem Items.ints {K : PySem.W.Frag} {m : Mode} {B : List Addr} {F H : Hp} {vs : List V} {ns : List Int} (it : Items K m B F H vs (ns.map D.int)) : vs = ns.map V.int := by
  refine List.ext_getElem? fun i => ?_
  cases q : ns[i]? with
  | none =>
    have hl := List.getElem?_eq_none_iff.mp q
    rw [List.getElem?_eq_none (by rw [it.1, List.length_map]; exact hl), List.getElem?_eq_none (by rw [List.length_map]; exact hl)]
  | some n =>
    have e : (ns.map D.int)[i]? = some (.int n) := by rw [List.getElem?_map, q]; rfl
    obtain ⟨x, h1, h2⟩ := it.2 i _ e
    obtain ⟨rfl, _⟩ := h2.int
    rw [h1, List.getElem?_map, q]; rfl
def gSum : List D → (D → Prop) → Prop
  | [.lst ds], R => ∃ ns, intsOf ds = some ns ∧ R (.int ns.sum)
  | _, _ => False
theorem opN_sum {K : PySem.W.Frag} {m1 m : Mode} (h1 : m1.look = true) : OpN K (rSum K) [m1] m gSum := by
  intro B F H vs ds fp R Q w hv hf hg k
  unfold gSum at hg
  split at hg
  · obtain ⟨ns, e, hR⟩ := hg
    obtain ⟨v, rfl, h⟩ := hv.one
    obtain ⟨_, a, xs, rfl, ha, it⟩ := h.lst h1 w
    have e' := ints_of e
    subst e'
    have := it.ints
    subst this
    exact ⟨a, ns, rfl, ha, k.int w hR⟩
  · exact hg.elim
/-! the type of a value -/
def tyD : D → Option Value
  | .non => some (.type "NoneType")
  | .bl _ => some (.type "bool")
  | .int _ => some (.type "int")
  | .str _ => some (.type "str")
  | .tup _ => some (.type "tuple")
  | .lst _ => some (.type "list")
  | .dK _ => some (.type "dict")
  | .dT _ => none
  | .obj C _ => some (.ref C)
  | .raw _ => none
/-- what is to be known of a class for isinstance -/
structure IsiC (K : PySem.W.Frag) (C : Addr) : Prop where
  cl : Cls K C
  ha : PySem.W.findIn K (.ref C) "__class__" = some (some (.builtin "object.__class__"))
  hn : PySem.W.specialIn K (.builtin "object.__class__") "__get__" = some (some (.builtin "getset_descriptor.__get__"))
  ht : PySem.W.takesIn K (.builtin "object.__class__") = some true
  hm : PySem.W.mroIn K C (.type "object") = some true
def clV : V → Option Value
  | .ty n => some (.type n)
  | .ref C => some (.ref C)
  | _ => none
def gIsi (K : PySem.W.Frag) : List D → (D → Prop) → Prop
  | [d, .raw c], R => ∃ t u b, tyD d = some t ∧ clV c = some u ∧ PySem.W.kitOne K t u = some b ∧ (∀ C es, d = .obj C es → IsiC K C) ∧ R (.bl b)
  | _, _ => False
end GK

namespace GK
open PySem PySem.Spec PyProof.Rows L2

section
variable {K : PySem.W.Frag} {m m1 m2 : Mode}
theorem Val.tyX {B fp : List Addr} {F H : Hp} {v : V} {d : D} {t : Value} (hm : m.look = true) (w : WF B F H) (h : Val K m B F H v d fp) (e : tyD d = some t) (hc : ∀ C es, d = .obj C es → IsiC K C) : TyX K H v t := by
  cases d <;> try (cases e; done)
  · cases e; obtain ⟨rfl, _⟩ := h.non; exact .base .non
  · cases e; obtain ⟨rfl, _⟩ := h.bl; exact .base (.bl _)
  · cases e; obtain ⟨rfl, _⟩ := h.int; exact .base (.int _)
  · cases e; obtain ⟨rfl, _⟩ := h.str; exact .base (.str _)
  · cases e
    obtain ⟨_, a, vs, rfl, hs, _⟩ := h.tup hm w
    rcases hs with hs | ⟨o, its, n, hk, h1, _⟩
    · rcases hs with hs | ⟨o, hs⟩
      · exact .base (.tup hs)
      · exact .fTuple hs
    · exact .kTuple hk h1
  · cases e
    obtain ⟨_, a, vs, rfl, hs, _⟩ := h.lst hm w
    rcases hs with hs | ⟨o, its, n, hk, h1, _⟩
    · rcases hs with hs | ⟨o, hs⟩
      · exact .base (.lst hs)
      · exact .base (.frz hs)
    · exact .kList hk h1
  · cases e
    obtain ⟨_, a, kvs, rfl, hr, _⟩ := h.dK hm w
    rcases hr with hs | ⟨o, hs⟩
    · exact .base (.dK hs)
    · exact .fDict hs
  · cases e
    rename_i C es
    obtain ⟨_, a, dx, fs, rfl, ha, _⟩ := h.obj hm w
    have c := hc C es rfl
    exact .base (.ins ha c.cl c.ha c.hn c.ht c.hm)
theorem raw_v {B fp : List Addr} {F H : Hp} {v c : V} (h : Val K m B F H v (.raw c) fp) : v = c := by
  cases m with
  | rd => cases h.1; rfl
  | bor n =>
    obtain ⟨⟨f, h, _⟩, _⟩ := h
    cases n with
    | zero => cases h.1; rfl
    | succ n => cases h.1; rfl
  | own n =>
    cases n with
    | zero => cases (show Own K F H 0 v _ fp from h).1; rfl
    | succ n => cases (show R K F v _ ∧ _ from h).1; rfl
theorem clV_ok {c : V} {u : Value} (h : clV c = some u) : ClsV c u := by
  cases c <;> try (cases h; done)
  · cases h; exact .own _
  · cases h; exact .ty _
theorem opN_isi (hm : m1.look = true) : OpN K (rIsi K) [m1, m2] m (gIsi K) := by
  intro B F H vs ds fp R Q w hv hf hg k
  unfold gIsi at hg
  split at hg
  · obtain ⟨t, u, b, e1, e2, e3, hc, hR⟩ := hg
    obtain ⟨v, v', f, f', rfl, h, h', _⟩ := hv.two
    have := raw_v h'
    subst this
    exact ⟨v, _, t, u, b, rfl, clV_ok e2, h.tyX hm w e1 hc, e3, k.bl w hR⟩
  · exact hg.elim
end
section
variable {X : Cx} {e e2 : Expr} {x : Str} {p pos : Pos} {m m1 m2 : Mode} {f f' : FE}
theorem de_ty {T : String} (hg : Gl X x) (hm : X.mg x = none) (hv : bootBuiltins x = some (.type T)) (hn : x ≠ "__name__" := by decide) (hd : (x == ("__debug__" : Str)) = false := by decide) : DE X B (.Name x pos) m (fun _ R => R (.raw (.ty T))) :=
  PE.imp (pe_bltn hg hm hv (v := .ty T) rfl hn hd) fun σ H Q ⟨F, ρ, fp, R, S, hf, k⟩ => k.at S.wf rfl (fun _ => .raw _) hf
/-- a class, a def of the module -/
theorem de_glb {a : Addr} (hg : Gl X x) (hm : X.mg x = some (.ref a)) (hd : (x == ("__debug__" : Str)) = false := by decide) : DE X B (.Name x pos) m (fun _ R => R (.raw (.ref a))) :=
  PE.imp (pe_glob hg hm (v := .ref a) rfl hd) fun σ H Q ⟨F, ρ, fp, R, S, hf, k⟩ => k.at S.wf rfl (fun _ => .raw _) hf
/-- a constant of the module that is an int or a text -/
theorem de_gint {i : Int} {t : Tok} (hg : Gl X x) (hm : X.mg x = some (.int i t)) (hd : (x == ("__debug__" : Str)) = false := by decide) : DE X B (.Name x pos) m (fun _ R => R (.int i)) :=
  PE.imp (pe_glob hg hm (v := .int i) ⟨_, rfl⟩ hd) fun σ H Q ⟨F, ρ, fp, R, S, hf, k⟩ => k.int S.wf hf
theorem de_gstr {i : Str} {t : Tok} (hg : Gl X x) (hm : X.mg x = some (.str i t)) (hd : (x == ("__debug__" : Str)) = false := by decide) : DE X B (.Name x pos) m (fun _ R => R (.str i)) :=
  PE.imp (pe_glob hg hm (v := .str i) ⟨_, rfl⟩ hd) fun σ H Q ⟨F, ρ, fp, R, S, hf, k⟩ => k.str S.wf hf
theorem de_isi (hz : X.mg "isinstance" = none) (ha : DE X B e m1 f) (hb : DE X B e2 m2 f') (hm : m1.look = true := by rfl) (hg : Gl X "isinstance" := by rfl) (he : starEach [e, e2] X.env = (false, eval e X.env) :: starEach [e2] X.env := by rfl) (he2 : starEach [e2] X.env = (false, eval e2 X.env) :: starEach [] X.env := by rfl) (hpl : (backTo pos (starEach [e2] X.env)).any (·.1) = false := by rfl) :
    DE X B (.Call (.Name "isinstance" p) [e, e2] [] pos) m (fArgs (gIsi X.K) (fCons f (fCons f' fNil))) := de_B call_isi (opN_isi hm) hg hz (by decide +kernel) (da_cons ha (da_cons hb da_nil he2) he) (by decide) (by decide) he hpl
theorem de_sorted (hu : X.A.units + 67 < cLine) (hz : X.mg "sorted" = none) (ha : DE X B e m1 f) (hm : m1.flat1 = true := by rfl) (hg : Gl X "sorted" := by rfl) (he : starEach [e] X.env = (false, eval e X.env) :: starEach [] X.env := by rfl) (hpl : (backTo pos (starEach [] X.env)).any (·.1) = false := by rfl) :
    DE X B (.Call (.Name "sorted" p) [e] [] pos) (.own 1) (fArgs gSort (fCons f fNil)) := de_B (cr_sortD hu) (opN_sort hm) hg hz (by decide +kernel) (da_cons ha da_nil he) (by decide) (by decide) he hpl
theorem de_sum (hc : X.calm = true) (hz : X.mg "sum" = none) (ha : DE X B e m1 f) (hm : m1.look = true := by rfl) (hg : Gl X "sum" := by rfl) (he : starEach [e] X.env = (false, eval e X.env) :: starEach [] X.env := by rfl) (hpl : (backTo pos (starEach [] X.env)).any (·.1) = false := by rfl) :
    DE X B (.Call (.Name "sum" p) [e] [] pos) m (fArgs gSum (fCons f fNil)) := de_B (cr_sum hc) (opN_sum hm) hg hz (by decide +kernel) (da_cons ha da_nil he) (by decide) (by decide) he hpl
theorem de_listL (hz : X.mg "list" = none) (ha : DE X B e m1 f) (hm : m1.flat1 = true := by rfl) (hg : Gl X "list" := by rfl) (he : starEach [e] X.env = (false, eval e X.env) :: starEach [] X.env := by rfl) (hpl : (backTo pos (starEach [] X.env)).any (·.1) = false := by rfl) :
    DE X B (.Call (.Name "list" p) [e] [] pos) (.own 1) (fArgs gListL (fCons f fNil)) := de_Ty call_list_of (opN_listL hm) hg hz (by decide +kernel) (da_cons ha da_nil he) (by decide) (by decide) he hpl
theorem de_listT (hz : X.mg "list" = none) (ha : DE X B e (.own 0) f) (hg : Gl X "list" := by rfl) (he : starEach [e] X.env = (false, eval e X.env) :: starEach [] X.env := by rfl) (hpl : (backTo pos (starEach [] X.env)).any (·.1) = false := by rfl) :
    DE X B (.Call (.Name "list" p) [e] [] pos) (.own 1) (fArgs gListT (fCons f fNil)) := de_Ty call_list_of opN_listT hg hz (by decide +kernel) (da_cons ha da_nil he) (by decide) (by decide) he hpl
theorem de_listK (hc : X.calm = true) (hz : X.mg "list" = none) (ha : DE X B e m1 f) (hm : m1.look = true := by rfl) (hg : Gl X "list" := by rfl) (he : starEach [e] X.env = (false, eval e X.env) :: starEach [] X.env := by rfl) (hpl : (backTo pos (starEach [] X.env)).any (·.1) = false := by rfl) :
    DE X B (.Call (.Name "list" p) [e] [] pos) (.own 1) (fArgs gListK (fCons f fNil)) := de_Ty ((call_listD hc).or (call_list_dT hc)) (opN_listK hm) hg hz (by decide +kernel) (da_cons ha da_nil he) (by decide) (by decide) he hpl
end
/-! x in a list or tuple of atoms -/
def flD : D → Bool
  | .non => true
  | .bl _ => true
  | .int _ => true
  | .str _ => true
  | _ => false
def eqF : D → D → Bool
  | .non, .non => true
  | .bl a, .bl b => a == b
  | .int a, .int b => a == b
  | .str a, .str b => a == b
  | .bl a, .int b => (if a then 1 else 0) == b
  | .int a, .bl b => a == (if b then 1 else 0)
  | _, _ => false
end GK

namespace GK
open PySem PySem.Spec PyProof.Rows L2

/-! ### x in a list or tuple of atoms -/
def flV : D → V
  | .bl b => .bl b
  | .int i => .int i
  | .str s => .str s
  | _ => .non
def itemsOf : D → Option (List D)
  | .lst ds => some ds
  | .tup ds => some ds
  | _ => none
def gIn (n : Bool) (x y : D) (R : D → Prop) : Prop := ∃ ds, itemsOf y = some ds ∧ flD x = true ∧ ds.all flD = true ∧ R (.bl (n ^^ ds.any fun z => eqF z x))
section
variable {K : PySem.W.Frag} {m m1 m2 : Mode}
theorem Val.fl {B fp : List Addr} {F H : Hp} {v : V} {d : D} (e : flD d = true) (h : Val K m B F H v d fp) : v = flV d := by
  cases d <;> try (cases e; done)
  · exact h.non.1
  · exact h.bl.1
  · exact h.int.1
  · exact h.str.1
theorem Items.fl {B : List Addr} {F H : Hp} {vs : List V} {ds : List D} (e : ds.all flD = true) (it : Items K m B F H vs ds) : vs = ds.map flV := by
  refine List.ext_getElem? fun i => ?_
  cases q : ds[i]? with
  | none =>
    have hl := List.getElem?_eq_none_iff.mp q
    rw [List.getElem?_eq_none (by rw [it.1]; exact hl), List.getElem?_eq_none (by rw [List.length_map]; exact hl)]
  | some d =>
    obtain ⟨x, h1, h2⟩ := it.2 i _ q
    rw [h1, List.getElem?_map, q, h2.fl (List.all_eq_true.mp e d (List.mem_of_getElem? q))]; rfl
theorem flV_flat (d : D) : flatV (flV d) = true := by cases d <;> rfl
theorem eqF_V {z x : D} (hz : flD z = true) (hx : flD x = true) : eqV (flV z) (flV x) = eqF z x := by
  cases z <;> try (cases hz; done)
  all_goals (cases x <;> try (cases hx; done))
  all_goals rfl
theorem inV_D {x : D} (hx : flD x = true) : ∀ {ds : List D}, ds.all flD = true → inV (flV x) (ds.map flV) = ds.any fun z => eqF z x
  | [], _ => rfl
  | z :: ds, h => by
    rw [List.all_cons, Bool.and_eq_true] at h
    have ih := inV_D hx h.2
    unfold inV at ih ⊢
    rw [List.map_cons, List.any_cons, List.any_cons, ih, eqF_V h.1 hx]
theorem op2_in {n : Bool} (hm : m2.look = true) : Op2 K (rIn K n) m1 m2 m (gIn n) := by
  intro B F H x y d e fp R Q w ⟨f1, f2, ef, hx, hy⟩ _ ⟨ds, e1, e2, e3, hR⟩ k
  have ev := hx.fl e2
  subst ev
  have fin : ∀ {p : Addr} {vs : List V}, (SqL K H p vs ∨ SqT K H p vs) → vs = ds.map flV → rIn K n (flV d) (.ref p) H Q := fun {p vs} hs ev => by
    subst ev
    refine ⟨p, _, rfl, hs, flV_flat d, ?_, ?_⟩
    · rw [List.all_map]
      exact List.all_eq_true.mpr fun z _ => flV_flat z
    · rw [inV_D e2 e3]
      cases n with
      | true =>
        rw [if_pos rfl]
        exact k.bl w (by simpa using hR)
      | false =>
        rw [if_neg Bool.false_ne_true]
        exact k.bl w (by simpa using hR)
  cases e <;> try (cases e1; done)
  · cases e1
    obtain ⟨_, a, vs, rfl, hs, it⟩ := hy.tup hm w
    exact fin (.inr hs) (it.fl e3)
  · cases e1
    obtain ⟨_, a, vs, rfl, hs, it⟩ := hy.lst hm w
    exact fin (.inl hs) (it.fl e3)
/-- .. items at any depth -/
def gInD (n : Bool) (x y : D) (R : D → Prop) : Prop := ∃ ds, y = .lst ds ∧ okD 63 x = true ∧ okD 64 y = true ∧ R (.bl (n ^^ ds.any fun z => PyData.eqv (toP z) (toP x)))
theorem toPs_map : ∀ ds : List D, toPs ds = ds.map toP
  | [] => by simp [toPs]
  | d :: ds => by rw [toPs, List.map_cons, toPs_map ds]
theorem op2_inD : Op2 K (rInD K) m1 m2 m (gInD false) := by
  intro B F H x y d e fp R Q w ⟨f1, f2, ef, hx, hy⟩ hf ⟨ds, e1, e2, e3, hR⟩ k
  subst ef
  subst e1
  have r1 := hx.rd w fun a ha => (hf.1 a (List.mem_append_left _ ha)).2
  have r2 := hy.rd w fun a ha => (hf.1 a (List.mem_append_right _ ha)).2
  refine ⟨toP d, toPs ds, GK.R.dp e2 r1, by have := GK.R.dp e3 r2; rw [toP] at this; exact this, okD_shaped e2 (by decide), by have := okD_shaped e3 (by decide); rw [toP] at this; exact this, ?_⟩
  rw [toPs_map, List.any_map]
  exact k.bl w (by rw [Bool.false_xor] at hR; exact hR)
theorem op2_notInD : Op2 K (rNotInD K) m1 m2 m (gInD true) := by
  intro B F H x y d e fp R Q w ⟨f1, f2, ef, hx, hy⟩ hf ⟨ds, e1, e2, e3, hR⟩ k
  subst ef
  subst e1
  have r1 := hx.rd w fun a ha => (hf.1 a (List.mem_append_left _ ha)).2
  have r2 := hy.rd w fun a ha => (hf.1 a (List.mem_append_right _ ha)).2
  refine ⟨toP d, toPs ds, GK.R.dp e2 r1, by have := GK.R.dp e3 r2; rw [toP] at this; exact this, okD_shaped e2 (by decide), by have := okD_shaped e3 (by decide); rw [toP] at this; exact this, ?_⟩
  rw [toPs_map, List.any_map]
  exact k.bl w (by rw [Bool.true_xor] at hR; exact hR)
end
section
variable {X : Cx} {a b : Expr} {pos : Pos} {m m1 m2 : Mode} {f f' : FE}
theorem de_in (ha : DE X B a m1 f) (hb : DE X B b m2 f') (hm : m2.look = true := by rfl) (h1 : behindInMarks .In b = false := by rfl) : DE X B (.Compare a [.In] [b] pos) m (fBin (gIn false) f f') := de_cmp op_in_seq (op2_in hm) ha hb h1
theorem de_notin (ha : DE X B a m1 f) (hb : DE X B b m2 f') (hm : m2.look = true := by rfl) (h1 : behindInMarks .NotIn b = false := by rfl) : DE X B (.Compare a [.NotIn] [b] pos) m (fBin (gIn true) f f') := de_cmp op_notIn_seq (op2_in hm) ha hb h1
theorem dt_in (ha : DE X B a m1 f) (hb : DE X B b m2 f') (hm : m2.look = true := by rfl) (h1 : behindInMarks .In b = false := by rfl) : DT X B (.Compare a [.In] [b] pos) (fBool (fBin (gIn false) f f')) := dt_cmp .rd op_in_seq (op2_in hm) ha hb h1
theorem dt_notin (ha : DE X B a m1 f) (hb : DE X B b m2 f') (hm : m2.look = true := by rfl) (h1 : behindInMarks .NotIn b = false := by rfl) : DT X B (.Compare a [.NotIn] [b] pos) (fBool (fBin (gIn true) f f')) := dt_cmp .rd op_notIn_seq (op2_in hm) ha hb h1
theorem de_inD (hu : X.A.units + 65 < cLine) (ha : DE X B a m1 f) (hb : DE X B b m2 f') (h1 : behindInMarks .In b = false := by rfl) : DE X B (.Compare a [.In] [b] pos) m (fBin (gInD false) f f') := de_cmp (op_inD hu) op2_inD ha hb h1
theorem de_notinD (hu : X.A.units + 65 < cLine) (ha : DE X B a m1 f) (hb : DE X B b m2 f') (h1 : behindInMarks .NotIn b = false := by rfl) : DE X B (.Compare a [.NotIn] [b] pos) m (fBin (gInD true) f f') := de_cmp (op_notInD hu) op2_notInD ha hb h1
theorem dt_inD (hu : X.A.units + 65 < cLine) (ha : DE X B a m1 f) (hb : DE X B b m2 f') (h1 : behindInMarks .In b = false := by rfl) : DT X B (.Compare a [.In] [b] pos) (fBool (fBin (gInD false) f f')) := dt_cmp .rd (op_inD hu) op2_inD ha hb h1
theorem dt_notinD (hu : X.A.units + 65 < cLine) (ha : DE X B a m1 f) (hb : DE X B b m2 f') (h1 : behindInMarks .NotIn b = false := by rfl) : DT X B (.Compare a [.NotIn] [b] pos) (fBool (fBin (gInD true) f f')) := dt_cmp .rd (op_notInD hu) op2_notInD ha hb h1
end

/-! ### pop -/
section
variable {K : PySem.W.Frag} {B fp : List Addr} {Pn : List V} {Z0 F0 F H : Hp} {σ : L2.St} {ρ : Env} {n i : Nat}
theorem seqIx {i : Int} {n k : Nat} (h : ixN n i = some k) : seqIndex? i n = some k := by
  unfold ixN at h
  unfold seqIndex?
  split at h
  · rename_i h0
    split at h
    · rename_i h1
      cases h
      simp [show ¬ i < 0 by omega, h0, h1]
    · cases h
  · rename_i h0
    split at h
    · rename_i h1
      cases h
      simp [show i < 0 by omega, show 0 ≤ i + (n : Int) by omega, show i + (n : Int) < n by omega]
    · cases h
/-- an item is taken out of the list at a name -/
theorem StOk.popped {ds : List D} (S : StOk K B Pn Z0 F0 F H σ ρ fp) (e : slot ρ i = some (n + 1, .lst ds)) {k : Nat} {d : D} (hk : ds[k]? = some d) :
    ∃ a vs v f fp', σ[i]? = some (some (.ref a)) ∧ H a = some (.lst vs) ∧ vs.length = ds.length ∧ vs[k]? = some v ∧ StOk K B Pn Z0 F0 F (upd H a (.lst (vs.eraseIdx k))) σ (ρ.set i (some (n + 1, .lst (ds.eraseIdx k)))) fp' ∧
      Own K F (upd H a (.lst (vs.eraseIdx k))) n v d f ∧ Apart B Z0 F fp' f := by
  obtain ⟨v0, f0, fp1, e1, e2, S1, ap1, sub⟩ := S.take e
  obtain ⟨a, vs, g, rfl, ha, rfl, t⟩ := e2
  obtain ⟨hag, hg⟩ := List.nodup_cons.mp ap1.2
  obtain ⟨h1, h2, h3, h4⟩ := ap1.1 a List.mem_cons_self
  obtain ⟨g', t', sg, ng, kk⟩ := t.erase k hg
  have hl := t.len
  have hkl : k < ds.length := (List.getElem?_eq_some_iff.mp hk).1
  obtain ⟨v, hv⟩ : ∃ v, vs[k]? = some v := ⟨_, List.getElem?_eq_getElem (by omega)⟩
  obtain ⟨d', gv, q1, q2, q3, q4⟩ := kk v hv
  rw [hk] at q1
  cases q1
  obtain ⟨n1, n2, n3⟩ := List.nodup_append.mp q3
  have S2 := S1.mut (o := .lst (vs.eraseIdx k)) h4 h1 h2 h3 rfl
  have hag' : a ∉ g' := fun z => hag (sg a z)
  have hagv : a ∉ gv := fun z => hag (q4 a z)
  have ow : Own K F (upd H a (.lst (vs.eraseIdx k))) (n + 1) (.ref a) (.lst (ds.eraseIdx k)) (a :: g') := ⟨a, _, g', rfl, upd_same, rfl, t'.upd hag'⟩
  have hi : i < (ρ.set i none).length := by rw [List.length_set]; exact slot_lt e
  obtain ⟨fp2, o3, nd3, sub3⟩ := OwnE.set ow S2.own (List.nodup_append.mpr ⟨S2.nd, List.nodup_cons.mpr ⟨hag', ng⟩, fun b hb c hc e => by
    subst e
    rcases List.mem_cons.mp hc with z | z
    · subst z; exact h4 hb
    · exact (ap1.1 b (List.mem_cons_of_mem _ (sg b z))).2.2.2 hb⟩) hi
  rw [set_self e1, List.set_set] at o3
  have S3 : StOk K B Pn Z0 F0 F (upd H a (.lst (vs.eraseIdx k))) σ (ρ.set i (some (n + 1, .lst (ds.eraseIdx k)))) fp2 := by
    refine ⟨S2.wf, o3, nd3, fun b hb => ?_, S2.z, S2.zB, S2.f, S2.fr, S2.pn⟩
    rcases sub3 b hb with z | z
    · exact S2.out b z
    · rcases List.mem_cons.mp z with z | z
      · subst z; exact ⟨h1, h2, h3⟩
      · obtain ⟨r1, r2, r3, _⟩ := ap1.1 b (List.mem_cons_of_mem _ (sg b z))
        exact ⟨r1, r2, r3⟩
  refine ⟨a, vs, v, gv, fp2, e1, ha, hl, hv, S3, q2.upd hagv, ⟨fun b hb => ?_, n2⟩⟩
  obtain ⟨r1, r2, r3, r4⟩ := ap1.1 b (List.mem_cons_of_mem _ (q4 b hb))
  refine ⟨r1, r2, r3, fun z => ?_⟩
  rcases sub3 b z with y | y
  · exact r4 y
  · rcases List.mem_cons.mp y with y | y
    · subst y; exact hagv hb
    · exact n3 b y b hb rfl
end
section
variable {X : Cx} {e : Expr} {pin n i : Nat} {fe : FE} {f : FM} {x : Str} {pos p apos cpos : Pos}
/-- x.pop(j) -/
theorem dm_popAt (i n : Nat) (he : DE X B e (.own 0) fe) (hN : NameOk X i x := by exact ⟨rfl, by first | exact Or.inl rfl | exact Or.inr (Or.inl rfl) | exact Or.inr (Or.inr rfl), by decide, by decide⟩) (hb : BmOk X (.Name x p) "pop" apos e [] cpos := by exact ⟨rfl, rfl, rfl, rfl, rfl⟩) :
    DM X B (.Call (.Attribute (.Name x p) "pop" apos) [e] [] cpos) pin (.own n) (fun ρ R => ownLst ρ i n (fun _ => True) ∧ fe ρ fun j => ∃ j', j = .int j' ∧ -(2 ^ 63) ≤ j' ∧ j' < 2 ^ 63 ∧ ownLst ρ i n fun ds => ∃ k d, ixN ds.length j' = some k ∧ ds[k]? = some d ∧ R d (ρ.set i (some (n + 1, .lst (ds.eraseIdx k))))) :=
  PE.imp (pe_bm PySem.F.plainAttrs_list PySem.F.slot_list_pop PySem.F.type_list_pop mt_popAt (pe_var hN.1 hN.2 hN.3 hN.4) (pa_cons he pa_nil hb.4) hb.1 hb.2 hb.3 hb.4 hb.5) fun σ H Q ⟨Pn, Z0, F0, F, ρ, fp, R, hpl, S, ⟨h0, hf⟩, k⟩ => by
    obtain ⟨ds0, e0, _⟩ := h0.inv
    obtain ⟨a, vs, g, h1, h2, h3, h4, h5, h6, kk⟩ := S.lst e0
    refine ⟨_, h1, .inl ⟨rfl, _, SqL.of h2⟩, F, ρ, fp, _, S.base, hf, fun F' H' w j fj s hw oj nj ⟨j', ej, l1, l2, hR⟩ => ?_⟩
    subst ej
    obtain ⟨rfl, _⟩ := hw.int
    obtain ⟨ds, e1, kx, d, hk, hd, hR⟩ := hR.inv
    have S' := S.step s fun a h => (by cases h)
    obtain ⟨a', vs', v, f, fp', q1, q2, q3, q4, q5, q6, q7⟩ := S'.popped e1 hd
    rw [h1] at q1
    cases q1
    exact ⟨a, vs', j', kx, v, rfl, rfl, q2, l1, l2, by rw [q3]; exact seqIx hk, q4, k F' _ _ fp' v d f q5 q6 q7 hR⟩
/-- [e] -/
theorem dm_lst1 (n : Nat) (he : DM X B e pin (.own n) f) (hs : starEach [e] X.env = (false, eval e X.env) :: starEach [] X.env := by rfl) : DM X B (.List [e] pos) pin (.own (n + 1)) (fun ρ R => f ρ fun d ρ' => R (.lst [d]) ρ') :=
  PE.imp (pe_lst (pa_cons he pa_nil hs)) fun σ H Q ⟨Pn, Z0, F0, F, ρ, fp, R, hpl, S, hf, k⟩ => by
    refine ⟨Pn, Z0, F0, F, ρ, fp, _, hpl, S, hf, fun F' H' ρ' fp' v d f' S' hv ap hR => ?_⟩
    refine ⟨by show 1 ≤ sizeLine; decide, fun z hz => ?_⟩
    have hv : Own X.K F' H' n v d f' := hv
    have S2 := S'.step (Step.laid (A := []) S'.wf hz (o := .lst [v]) rfl) fun a h => (by cases h)
    have hzf : z ∉ f' := fun h => by obtain ⟨o, e, _⟩ := hv.there z h; rw [hz] at e; cases e
    refine k F' _ ρ' fp' (.ref z) (.lst [d]) (z :: f') S2 ⟨z, [v], f', rfl, upd_same, rfl, OwnL.one (hv.upd hzf)⟩ ⟨fun a ha => ?_, List.nodup_cons.mpr ⟨hzf, ap.2⟩⟩ hR
    rcases List.mem_cons.mp ha with y | y
    · subst y
      refine ⟨F_none S'.wf hz, S'.wf.notB hz, ?_, fun hm => ?_⟩
      · cases q : Z0 a with
        | none => rfl
        | some o => rw [S'.z a o q] at hz; cases hz
      · obtain ⟨o, e, _⟩ := S'.own.there a hm
        rw [hz] at e; cases e
    · exact ap.1 a y
/-- targets = e, what e gives may be read -/
theorem ds_asg {tg : Expr} {mr : Mode} {t : D → Env → Option Env} (he : DM X B e pin (.own 0) f) (hg : DG X pin tg t) (hs : swapsWithSole [tg] e pos.line X.env = pure false := by rfl) (hw : swappedStores [tg] e X.env = pure none := by rfl)
    (h1 : (assignEach [tg] X.env).map (·.2) = [assign tg X.env] := by rfl) : DS X B (.Assign [tg] e pos) pin mr (fun E ρ => f ρ fun d ρ' => ∃ ρ2, t d ρ' = some ρ2 ∧ E.nx ρ2) := by
  obtain ⟨g, pg, kg⟩ := hg.ok
  exact PS.imp (ps_asg he pg hs hw h1) fun Dn σ H ⟨Pn, Z0, F0, F, ρ, fp, E, hpl, S, hf, L⟩ => ⟨Pn, Z0, F0, F, ρ, fp, _, hpl, S, hf, fun F' H' ρ' fp' v d f' S' hv ap ⟨ρ2, e2, hR⟩ => by
    obtain ⟨hv, _⟩ := (show Own X.K F' H' 0 v d f' from hv)
    exact kg B Pn Z0 F0 F' H' σ ρ' ρ2 fp' v d hpl S' hv e2 _ fun σ' fp2 S2 => L.nx F' H' σ' ρ2 fp2 S2 hR⟩
end
end GK

namespace GK
open PySem PySem.Spec PyProof.Rows L2

/-! ### defs with defaults, calls with keywords -/
section
variable {P : Program} {w : World} {K : PySem.W.Frag} {mg : Str → Option Value} {base : Heap}
/-- .. with defaults -/
theorem FunD_okD {x qual : Str} {st : Stmt} {dvs : List V} {kws : List (Str × V)} {f : Addr} {fd : FuncData} {N ps : List Str} {k : Nat} {m : Mode} {W : BSpec} (F : FunD K x qual (defArgs st) (defBody st) (defScope st) dvs kws f fd) (S : FnScope N ps (defScope st)) (len : ∀ B ds R, W B ds R → ds.length = ps.length)
    (hbody : ∀ (B : List Addr) (cdv : Value) (A : Around) (outer : List PySem.Env) (s : Shared) (H : Hp) (E : XK), Room k (A.deeper (envOfC qual (defScope st) s.heap.objs.size f cdv)) →
      ∃ g, DSs (cxOf CX0 P w K mg base N qual (defScope st) f cdv A outer s H E).nox B (defBody st) 0 m g ∧ ∀ ds R, W B ds R → g (DEnds.fn R) (startE N ds)) : FnOk P w K mg base CX0 (k + 1) f fd ps (spD K m W) := by
  refine F.ok S (fun vs H Q E ⟨B, F, ds, R, w, r, hW, k⟩ => by rw [r.length]; exact len B ds R hW) fun cdv A outer s H vs Q E hr ⟨B, F, ds, R, w, r, hW, k⟩ => ?_
  obtain ⟨g, hg, hq⟩ := hbody B cdv A outer s H E hr
  refine ⟨_, hg.nox, [], prot B [] H, F, F, startE N ds, [], DEnds.fn R, rfl, ⟨w, ?_, List.nodup_nil, fun a h => (by cases h), prot_same, fun a h => prot_in (.inr h), fun _ _ h => h, fun a u h => .inl h, fun i v e => (by simp at e)⟩, hq ds R hW, ?_⟩
  · rw [start_eq]
    unfold startE
    rw [r.length]
    exact ownE_start _ r
  have back : ∀ {F' H' : Hp} {σ' : L2.St} {ρ' : Env} {fp' : List Addr}, StOk K B [] (prot B [] H) F F' H' σ' ρ' fp' → Step B [] F H F' H' := fun {F' H' σ' ρ' fp'} T =>
    ⟨fun a o hb e => T.z a o (by rw [prot_out (by simp) hb]; exact e), T.f, fun a u e => by
      rcases T.fr a u e with z | z | z
      · exact .inl z
      · right; left
        by_cases hb : a ∈ B
        · have := T.wf.outB hb
          rw [this] at e; cases e
        · rw [prot_out (by simp) hb] at z; exact z
      · exact .inr (.inr (.inl z)), T.wf⟩
  exact ⟨fun F' H' σ' ρ' fp' T h => k F' H' .non .non [] (back T) (Val.atom rfl fun _ => .non) (fun a h => (by cases h)) List.nodup_nil h,
    fun F' H' σ' ρ' fp' v d f T hv ap h => k F' H' v d f (back T) hv (fun a ha => by
      obtain ⟨h1, h2, h3, h4⟩ := ap.1 a ha
      refine ⟨.inr ?_, h1, h2⟩
      rw [prot_out (by simp) h2] at h3; exact h3) ap.2 h,
    fun _ _ _ _ _ _ h => h.elim, fun _ _ _ _ _ _ h => h.elim⟩
theorem FunD_okM {x qual : Str} {st : Stmt} {dvs : List V} {kws : List (Str × V)} {fa : Addr} {fd : FuncData} {N ps : List Str} {k n : Nat} {m : Mode} {W : FSpecM} (F : FunD K x qual (defArgs st) (defBody st) (defScope st) dvs kws fa fd) (S : FnScope N ps (defScope st)) (len : ∀ s ds R, W s ds R → ds.length + 1 = ps.length)
    (hbody : ∀ (B : List Addr) (cdv : Value) (A : Around) (outer : List PySem.Env) (s : Shared) (H : Hp) (E : XK), Room k (A.deeper (envOfC qual (defScope st) s.heap.objs.size fa cdv)) →
      ∃ g, DSs (cxOf CX0 P w K mg base N qual (defScope st) fa cdv A outer s H E).nox B (defBody st) 1 m g ∧ ∀ s ds R, W s ds R → g (DEnds.meth n R) (some (n, s) :: (envOf ds ++ List.replicate (N.length - (ds.length + 1)) none))) : FnOk P w K mg base CX0 (k + 1) fa fd ps (spM K n m W) := by
  refine F.ok S (fun vs H Q E ⟨B, F, v, ws, s, ds, f, R, e, w, o, a, r, hW, k⟩ => by rw [e, List.length_cons, r.length]; exact len s ds R hW) fun cdv A outer sh H vs Q E hr ⟨B, F, v, ws, s, ds, f, R, ev, w, ho, ⟨ha, hn⟩, r, hW, k⟩ => ?_
  obtain ⟨g, hg, hq⟩ := hbody B cdv A outer sh H E hr
  subst ev
  refine ⟨_, hg.nox, [v], prot B f H, F, F, _, f, DEnds.meth n R, rfl, ⟨w, ?_, hn, fun a h => ⟨(ha a h).1, (ha a h).2, prot_in (.inl h)⟩, prot_same, fun a h => prot_in (.inr h), fun _ _ h => h, fun a u h => .inl h, fun i u e => ?_⟩, hq s ds R hW, ?_⟩
  · rw [start_eq, List.length_cons, r.length]
    exact ⟨f, [], (List.append_nil f).symm, ho, ownE_start _ r⟩
  · cases i with
    | zero =>
      have e' : v = u := Option.some.inj e
      subst e'; rfl
    | succ i => simp at e
  have fin : ∀ {F' H' : Hp} {σ' : L2.St} {ρ' : Env} {fp' : List Addr} {s' : D} {r : V} {d : D} {fr : List Addr}, StOk K B [v] (prot B f H) F F' H' σ' ρ' fp' → slot ρ' 0 = some (n, s') → Val K m B F' H' r d fr → Apart B (prot B f H) F' fp' fr → R d s' → Q r H' := fun {F' H' σ' ρ' fp' s' r d fr} T e hv ap hR => by
    obtain ⟨v', f', fp2, e1, e2, T2, ap2, sub⟩ := T.take e
    have e3 := T.pn 0 v rfl
    rw [e3] at e1
    cases e1
    refine k F' H' r d fr s' f' T.stepM e2 hv (fun a ha => ?_) ?_ hR
    · have key : F' a = none ∧ a ∉ B ∧ prot B f H a = none := by
        rcases List.mem_append.mp ha with z | z
        · obtain ⟨h1, h2, h3, _⟩ := ap2.1 a z; exact ⟨h1, h2, h3⟩
        · obtain ⟨h1, h2, h3, _⟩ := ap.1 a z; exact ⟨h1, h2, h3⟩
      refine ⟨?_, key.1, key.2.1⟩
      by_cases hf : a ∈ f
      · exact .inl hf
      · right
        have := key.2.2
        rw [prot_out hf key.2.1] at this; exact this
    · refine List.nodup_append.mpr ⟨ap2.2, ap.2, fun a ha b hb e => ?_⟩
      subst e
      exact (ap.1 a hb).2.2.2 (sub a (List.mem_append_right _ ha))
  exact ⟨fun F' H' σ' ρ' fp' T ⟨s', e, h⟩ => fin T e (Val.atom (d := .non) (v := .non) rfl fun _ => .non) .nil h, fun F' H' σ' ρ' fp' v d f T hv ap ⟨s', e, h⟩ => fin T e hv ap h,
    fun _ _ _ _ _ _ h => h.elim, fun _ _ _ _ _ _ h => h.elim⟩
end
section
variable {K : PySem.W.Frag} {x qual : Str} {params : Arguments} {body : List Stmt} {scope : Scope} {kws : List (Str × V)} {f : Addr} {fd : FuncData} {ps : List Str}
/-- keyword-only defaults alone: some are written, ms are those that lack -/
theorem kbinds0 (F : FunD K x qual params body scope [] kws f fd) (n : Nat) (ks : List Str) (ms : List (Str × V)) (g : {α : Type} → List α → List α → List α → List α) (hk : kws ≠ []) (hms : ∀ q ∈ ms, q ∈ kws)
    (hrel : ∀ {vs mz zs : List V} {us mv ws : List Value}, Vals vs us → Vals mz mv → Vals zs ws → Vals (g vs mz zs) (g us mv ws))
    (h : ∀ (Da : Addr) (doc pm : Value) (an : Option Addr) (cdv ct : Value) (us mv ws : List Value), us.length = n → mv.length = ms.length → ws.length = ks.length →
      KwChain Da ((ms.map (·.1)).zip mv) (bindArgs (PySem.W.fnOf x qual params body scope .none (.ref Da) doc pm an cdv ct) ⟨us, ks.zip ws⟩) (ps.zip (g us mv ws))) :
    ∃ mv : List Value, KBn K fd ps n ks (fun us ws => g us mv ws) (fun vs zs => g vs (ms.map (·.2)) zs) := by
  obtain ⟨oc, od, dV, kV, doc, pm, an, cdv, ct, osl, rfl, lk, hcd, hD, hK⟩ := F.ex
  rcases hD with ⟨_, rfl⟩ | ⟨e, _⟩
  · rcases hK with e | ⟨Da, rfl, hq⟩
    · exact absurd e hk
    · obtain ⟨mv, hl, rk, hks⟩ := kwd_vals (ms := ms) fun q hm => hq q (hms q hm)
      exact ⟨mv, ⟨fun s us ws X l1 l2 => BindsTo.of_looks fun M => KwChain.looks X hks (h Da doc pm an cdv ct us mv ws l1 hl l2), fun r1 r2 => hrel r1 rk r2⟩⟩
  · exact absurd rfl e
end
theorem PK.imp {X : Cx} {e : List Keyword} {t t' : TA} (h : PK X e t) (k : ∀ σ H Q, t' σ H Q → t σ H Q) : PK X e t' := ⟨fun p pins s σ H Q I q => h.run p pins s σ H Q I (k σ H Q q)⟩
abbrev DKw (X : Cx) (B : List Addr) (kws : List Keyword) (ms : List Mode) (f : FA) : Prop := PK X kws (tDA X.K B ms f)
section
variable {X : Cx} {e : Expr} {es : List Expr} {kws : List Keyword} {m : Mode} {ms ms' : List Mode} {f : FE} {fs fk : FA} {pos p kpos : Pos} {nm : Option Str}
theorem dk_nil : DKw X B [] [] fNil := PK.imp pk_nil fun σ H Q ⟨F, ρ, fp, R, S, hf, k⟩ => k F H [] [] [] (Step.refl S.wf) rfl (fun a h => (by cases h)) List.nodup_nil hf
theorem tDA_cons {K : PySem.W.Frag} {σ : L2.St} {H : Hp} {Q : List V → Hp → Prop} (h : tDA K B (m :: ms) (fCons f fs) σ H Q) : tCons (tD K B m f) (tDA K B ms fs) σ H Q := by
  obtain ⟨F, ρ, fp, R, S, hf, k⟩ := h
  refine ⟨F, ρ, fp, _, S, hf, fun F1 H1 v1 d1 fp1 s1 hv1 o1 n1 hg1 => ?_⟩
  refine ⟨F1, ρ, fp, _, S.step s1 (fun a ha => by cases ha), hg1, fun F2 H2 v2 d2 fp2 s2 hv2 o2 n2 hg2 => ?_⟩
  have t1 := hv1.there
  have nn : ∀ a ∈ fp1, F2 a = none := fun a ha => by
    obtain ⟨o, e, mu⟩ := t1 a ha
    exact s2.out e mu (o1 a ha).2.2 (o1 a ha).2.1 fun z => by cases z
  refine k F2 H2 (v1 :: v2) (d1 :: d2) (fp1 ++ fp2) (s1.trans s2 fun a ha => by cases ha) ⟨fp1, fp2, rfl, hv1.step s2 fun a ha => (o1 a ha).2.2, hv2⟩ (fun a ha => ?_) ?_ hg2
  · rcases List.mem_append.mp ha with z | z
    · exact ⟨(o1 a z).1, nn a z, (o1 a z).2.2⟩
    · exact ⟨.inr (s1.new (o2 a z).2.2 ((o2 a z).1.elim (fun z => by cases z) id)), (o2 a z).2⟩
  · refine List.nodup_append.mpr ⟨n1, n2, fun a ha b hb e => ?_⟩
    subst e
    obtain ⟨o, e, mu⟩ := t1 a ha
    rcases (o2 a hb).1 with z | z
    · cases z
    · rw [e] at z; cases z
theorem dk_cons (h : DE X B e m f) (hr : DKw X B kws ms fk) : DKw X B (⟨nm, e, kpos⟩ :: kws) (m :: ms) (fCons f fk) := PK.imp (pk_cons h hr) fun _ _ _ q => tDA_cons q
/-- f(e, .., k = v, ..) -/
theorem de_callN {k n : Nat} {fa : Addr} {fd : FuncData} {ps ks : List Str} {W : BSpec} {x : Str} {g : List Value → List Value → List Value} {gV : List V → List V → List V} (gD : List D → List D → List D)
    (F : FnOk X.prog X.w X.K X.mg X.base CX0 k fa fd ps (spD X.K m W)) (hr : Room k X.A) (hg : Gl X x) (hm : X.mg x = some (.ref fa)) (hk : PySem.W.keepIn X.K (.ref fa) = true) (hb : KBn X.K fd ps n ks g gV)
    (hgd : ∀ F vs xs zs ys, RL X.K F vs xs → RL X.K F zs ys → RL X.K F (gV vs zs) (gD xs ys)) (ha : DA X B (e :: es) ms fs) (hkw : DKw X B kws ms' fk) (hms : ∀ m ∈ ms, m = .own 0 := by simp) (hms' : ∀ m ∈ ms', m = .own 0 := by simp) (hn : (e :: es).length = n := by rfl) (hn' : kws.length = ks.length := by rfl)
    (hl : ms.length = (e :: es).length := by rfl) (hl' : ms'.length = kws.length := by rfl)
    (hall : (backToKw pos (keywordEach kws X.env)).all (·.1.isSome) = true := by rfl) (hks : (backToKw pos (keywordEach kws X.env)).filterMap (·.1) = ks := by rfl)
    (hdb : (x == ("__debug__" : Str)) = false := by decide) (he : starEach (e :: es) X.env = (false, eval e X.env) :: starEach es X.env := by rfl)
    (hpl : ((backTo pos (starEach (e :: es) X.env)).any (·.1) || (backToKw pos (keywordEach kws X.env)).any (·.1.isNone)) = false := by rfl) :
    DE X B (.Call (.Name x p) (e :: es) kws pos) m (fun ρ R => fs ρ fun xs => fk ρ fun ys => W B (gD xs ys) R) :=
  PE.imp (pe_callN F hr hg hm hk hb pass0 ha hkw hall hks hdb he hpl) fun σ H Q ⟨F, ρ, fp, R, S, hf, k⟩ => by
    have len : ∀ {ms : List Mode} {vs : List V} {ds : List D} {fp : List Addr} {F H : Hp}, ValL X.K B F H ms vs ds fp → vs.length = ms.length := fun {ms vs ds fp F H} h => by
      induction ms generalizing vs ds fp with
      | nil =>
        cases vs with
        | nil => rfl
        | cons v vs => cases h
      | cons m ms ih =>
        cases vs with
        | nil => cases h
        | cons v vs =>
          cases ds with
          | nil => cases h
          | cons d ds =>
            obtain ⟨f1, f2, e, h, t⟩ := h
            rw [List.length_cons, List.length_cons, ih t]
    refine ⟨F, ρ, fp, _, S, hf, fun F1 H1 vs xs fp1 s1 hv o1 n1 hg1 => ⟨F1, ρ, fp, _, S.step s1 (fun a h => by cases h), hg1, fun F2 H2 zs ys fp2 s2 hw o2 n2 hW => ⟨?_, ?_, ?_⟩⟩⟩
    · rw [len hv, hl, hn]
    · rw [len hw, hl', hn']
    · exact call_all s2.wf (hgd F2 _ _ _ _ ((hv.rl0 hms).mono s2.fs) (hw.rl0 hms')) hW ((k.after s1 (A1 := fp1) fun a ha => (o1 a ha).1).after (s2.weak fun a h => (by cases h)) (A1 := []) fun a h => (by cases h))
end
/-! ### tuples of targets in a comprehension -/
section
variable {X : Cx} {x : Str} {pos : Pos}
structure DGsc (X : Cx) (tgs : List Expr) (vs is : List Nat) : Prop where
  ok : ∃ g : TGs, (∀ (s : Shared) (H : Hp) (scope : Scope) (C : Addr) (cl : List (Str × Addr)) (fp : List Addr), (∀ v ∈ vs, ∃ x, X.N[v]? = some x ∧ ∀ C cl, (compEnvC scope cl C X.env).scope.names.lookup x = some .local) → PGs (X.blk s H scope (compEnvC scope cl C X.env) fp) tgs g) ∧
    ∀ (B : List Addr) (F H : Hp) (σ0 σ : L2.St) (ρ ρ' : Env) (fp : List Addr) (ws : List V) (ds : List D), L2.wipe σ vs = L2.wipe σ0 vs → StOk X.K B [] noH noH F H σ ρ fp → RL X.K F ws ds → tgL is ds ρ = some ρ' →
      ∀ Q : L2.St → Hp → Prop, (∀ σ' fp', StOk X.K B [] noH noH F H σ' ρ' fp' → L2.wipe σ' vs = L2.wipe σ0 vs → Q σ' H) → g ws σ H Q
theorem dgsc_nil {vs : List Nat} : DGsc X [] vs [] := ⟨gNil, fun _ _ _ _ _ _ _ => pgs_nil, fun B F H σ0 σ ρ ρ' fp ws ds hw S r e Q k => by
  cases r with
  | nil => cases e; exact ⟨rfl, k σ fp S hw⟩
  | cons h t => cases e⟩
theorem wipe_set {σ : L2.St} {i : Nat} {o : Option V} : ∀ {vs : List Nat}, i ∈ vs → L2.wipe (σ.set i o) vs = L2.wipe σ vs
  | v :: vs, h => by
    show (L2.wipe (σ.set i o) vs).set v none = (L2.wipe σ vs).set v none
    by_cases e : i ∈ vs
    · rw [wipe_set e]
    · have hv : i = v := by rcases List.mem_cons.mp h with z | z; exact z; exact absurd z e
      subst hv
      have comm : ∀ (us : List Nat) (σ : L2.St), i ∉ us → L2.wipe (σ.set i o) us = (L2.wipe σ us).set i o := by
        intro us
        induction us with
        | nil => intro σ _; rfl
        | cons u us ih =>
          intro σ hu
          show (L2.wipe (σ.set i o) us).set u none = ((L2.wipe σ us).set u none).set i o
          rw [ih σ fun z => hu (List.mem_cons_of_mem _ z)]
          exact List.set_comm _ _ fun z => hu (by rw [z]; exact List.mem_cons_self)
      rw [comm vs σ e, List.set_set]
theorem dgsc_cons {vs is : List Nat} {es : List Expr} (i : Nat) (hN : X.N.Nodup) (hi : X.N[i]? = some x) (hv : i ∈ vs) (h : DGsc X es vs is)
    (hs : ∀ (env : PySem.Env), (assignEach (.Name x pos :: es) env).map (·.2) = assign (.Name x pos) env :: (assignEach es env).map (·.2) := by intro _; rfl) : DGsc X (.Name x pos :: es) vs (i :: is) := by
  obtain ⟨g, pg, kg⟩ := h.ok
  refine ⟨gCons (gName i) g, fun s H scope C cl fp hl => ?_, fun B F H σ0 σ ρ ρ' fp ws ds hw S r e Q k => ?_⟩
  · obtain ⟨y, e, hy⟩ := hl i hv
    rw [hi] at e; cases e
    exact pgs_cons (pg_name hN hi (.inl (hy C cl)) (.inr (hy C cl))) (pg s H scope C cl fp hl) (hs _)
  · cases r with
    | nil => cases e
    | cons h t =>
      unfold tgL at e
      split at e
      · rename_i hi'
        obtain ⟨fp', S'⟩ := S.set (n := 0) (f := []) (i := i) ⟨h, rfl⟩ .nil hi' (Nat.zero_le _)
        exact ⟨_, _, rfl, kg B F H σ0 _ _ ρ' fp' _ _ (by rw [wipe_set hv]; exact hw) S' t e Q k⟩
      · cases e
theorem wipe_sub {σ : L2.St} {vs : List Nat} : ∀ {ws : List Nat}, (∀ w ∈ ws, w ∈ vs) → L2.wipe (L2.wipe σ ws) vs = L2.wipe σ vs
  | [], _ => rfl
  | w :: ws, h => by
    show L2.wipe ((L2.wipe σ ws).set w none) vs = _
    rw [wipe_set (h w List.mem_cons_self), wipe_sub fun x hx => h x (List.mem_cons_of_mem _ hx)]
theorem dgc_tup {vs is : List Nat} {es : List Expr} {k : Nat} (hc : X.calm = true) (h : DGsc X es vs is) (hn : ∀ env : PySem.Env, (assignEach es env).length = is.length := by intro _; rfl) (hst : ∀ env : PySem.Env, (assignEach es env).findIdx? (·.1) = none := by intro _; rfl) : DGc X (.Tuple es k pos) vs (tgT is) := by
  obtain ⟨g, pg, kg⟩ := h.ok
  refine ⟨L2.gTup X.K is.length g, fun s H scope C cl fp hl => pg_tup hc (pg s H scope C cl fp hl) (hn _) (hst _), fun B F H σ ρ ρ' fp v d S r e Q k => ?_⟩
  unfold tgT at e
  cases d <;> try (cases e; done)
  obtain ⟨a, ws, rfl, ht, rl⟩ := r.tupI
  refine ⟨a, ws, rfl, tup_sub S.wf ht, by rw [rl.length]; exact tgL_len e, ?_⟩
  exact kg B F H (L2.wipe σ vs) (L2.wipe σ vs) ρ ρ' fp ws _ rfl S rl e Q fun σ' fp' S' hw => k σ' fp' S' (by rw [hw]; exact wipe_sub fun _ h => h)
end
end GK

namespace GK
open PySem PySem.Spec PyProof.Rows L2

/-! ### the law's bag -/
section
variable {K : PySem.W.Frag} {B A : List Addr} {F H : Hp}
theorem bag_upd {b c l : Addr} {ts : List Addr} {cells left left' : List Int} {turn turn' : Int} (w : WF B F H) (eB : B = b :: c :: l :: ts) (ht : ∀ t ∈ ts, ∃ o xs, H t = some (.frz o (.lst xs))) (h1 : H b = some (.lst [.ref c, .ref l, .int turn])) (h2 : H c = some (.lst (cells.map V.int)))
    (h3 : H l = some (.lst (left.map V.int))) (n1 : b ≠ c) (n2 : b ≠ l) (n3 : c ≠ l) (l0 : 0 < cells.length) (l63 : cells.length ≤ 63) {H' : Hp} (hs : ∀ a, a ≠ b → a ≠ l → H' a = H a) (k1 : H' b = some (.lst [.ref c, .ref l, .int turn'])) (t0 : 0 ≤ turn')
    (k3 : H' l = some (.lst (left'.map V.int))) (le : left'.length = cells.length) : Step B A F H F H' := by
  have out : ∀ a, a ∉ B → H' a = H a := fun a ha => hs a (fun z => ha (by rw [eB, z]; simp)) fun z => ha (by rw [eB, z]; simp)
  refine ⟨fun a o ha e => by rw [out a ha]; exact e, fun _ _ h => h, fun _ _ h => .inl h, ⟨fun a u e => ?_, fun a o u ha e => w.lock a o u ha (by rw [← out a ha]; exact e), .inr ⟨b, c, l, ts, cells, left', turn', eB, fun t hm => ?_, k1, by rw [hs c n1.symm n3]; exact h2, k3, n1, n2, n3, t0, l0, l63, le⟩⟩⟩
  · obtain ⟨hb, x, ex, er⟩ := rdH_some (w.sub a u e)
    exact rdH_of hb (by rw [out a hb]; exact ex) er
  · obtain ⟨o, xs, e⟩ := ht t hm
    refine ⟨o, xs, ?_⟩
    rw [hs t (fun z => ?_) fun z => ?_]
    · exact e
    · subst z; rw [h1] at e; cases e
    · subst z; rw [h3] at e; cases e
/-- _law_draw(bag, size): some number from 0 to size - 1 -/
def wDraw : BSpec := fun B ds R => ∃ b size, B.head? = some b ∧ ds = [.raw (.ref b), .int size] ∧ 0 < size ∧ size.natAbs.log2 < 9000 ∧ ∀ r : Int, 0 ≤ r → r < size → R (.int r)
theorem atI_ints {ns : List Int} {i : Int} (h0 : 0 ≤ i) (h1 : i < ns.length) : ∃ n, atI (ns.map V.int) i = some (.int n) := by
  have e : i.toNat < ns.length := by omega
  refine ⟨ns[i.toNat], ?_⟩
  unfold atI ixN
  rw [if_pos h0, if_pos (by rw [List.length_map]; exact h1)]
  show (ns.map V.int)[i.toNat]? = _
  rw [List.getElem?_map, List.getElem?_eq_getElem e]; rfl
theorem atI_at {ns : List Int} {i : Int} {v : V} (h : atI (ns.map V.int) i = some v) (h0 : 0 ≤ i) : ∃ n k, v = .int n ∧ ixN (ns.map V.int).length i = some k ∧ k < ns.length := by
  unfold atI at h
  cases q : ixN (ns.map V.int).length i with
  | none => rw [q] at h; cases h
  | some k =>
    rw [q] at h
    have h : (ns.map V.int)[k]? = some v := h
    rw [List.getElem?_map] at h
    cases e : ns[k]? with
    | none => rw [e] at h; cases h
    | some n =>
      rw [e] at h
      cases h
      exact ⟨n, k, rfl, rfl, (List.getElem?_eq_some_iff.mp e).1⟩
end
end GK

namespace GK
open PySem PySem.Spec PyProof.Rows L2
/-- a comprehension's block, its names given as they stand -/
theorem blk_of (N : List Str) (sc : Scope) {scope : Scope} {own : List (Str × Nat)} (h0 : scope.kind = .function) (h1 : ∀ y ∈ scope.names, scope.names.lookup y.1 = some y.2) (h2 : ∀ p ∈ own, N[p.2]? = some p.1)
    (h3 : ∀ y ∈ scope.names, y.2 = .free → sc.names.lookup y.1 = some .cell ∨ sc.names.lookup y.1 = some .free) (h4 : ∀ y ∈ scope.names, y.2 = .local ∨ y.2 = .cell → y.1 ∈ own.map (·.1) ∨ y.1 ∉ N) : BlkOk N sc scope own := ⟨h0, h1, h2, h3, h4⟩
theorem cut_ints (ns : List Int) (lo hi : Option Int) : ∃ ms : List Int, cutV (ns.map V.int) lo hi = ms.map V.int ∧ ms.length ≤ ns.length := by
  refine ⟨(ns.drop (HT.sIx ns.length 0 lo)).take (HT.sIx ns.length ns.length hi - HT.sIx ns.length 0 lo), ?_, ?_⟩
  · unfold cutV
    rw [List.length_map, List.map_take, List.map_drop]
  · rw [List.length_take, List.length_drop]; omega
/-- _law_bag(script): two new lists of as many numbers, one at least, and the turn -/
def spBag (K : PySem.W.Frag) : Sp := fun vs H Q _ => ∃ (a : Addr) (ns : List Int), vs = [.ref a] ∧ SqL K H a (ns.map V.int) ∧ ns.length ≤ 63 ∧
  ∀ (b c l : Addr) (cells left : List Int) (H' : Hp), H b = none → b ≠ c → b ≠ l → c ≠ l → 0 < cells.length → cells.length ≤ 63 → left.length = cells.length → (∀ x o, H x = some o → H' x = some o) → (∀ x o u, H' x = some (.frz o u) → H x = some (.frz o u)) →
    H' b = some (.lst [.ref c, .ref l, .int 0]) → H' c = some (.lst (cells.map V.int)) → H' l = some (.lst (left.map V.int)) → Q (.ref b) H'
/-- what stands, and nothing new is locked -/
def Ext (H H' : Hp) : Prop := (∀ x o, H x = some o → H' x = some o) ∧ ∀ x o u, H' x = some (.frz o u) → H x = some (.frz o u)
theorem Ext.refl {H : Hp} : Ext H H := ⟨fun _ _ h => h, fun _ _ _ h => h⟩
theorem Ext.put {H H' : Hp} (e : Ext H H') {p : Addr} {xs : List V} (hp : H p = none) : Ext H (upd H' p (.lst xs)) :=
  ⟨fun x o h => by rw [upd_ne (ne_of_none h hp)]; exact e.1 x o h, fun x o u h => by
    by_cases c : x = p
    · subst c; rw [upd_same] at h; cases h
    · rw [upd_ne c] at h; exact e.2 x o u h⟩
theorem Ext.none {H H' : Hp} (e : Ext H H') {p : Addr} (h : H' p = none) : H p = none := by
  cases q : H p with
  | none => rfl
  | some o => rw [e.1 p o q] at h; cases h
theorem SqL.ext {K : PySem.W.Frag} {H H' : Hp} (e : ∀ x o, H x = some o → H' x = some o) {a : Addr} {xs : List V} (h : SqL K H a xs) : SqL K H' a xs := by
  rcases h with h | h
  · rcases h with h | ⟨o, h⟩
    · exact .inl (.inl (e _ _ h))
    · exact .inl (.inr ⟨o, e _ _ h⟩)
  · exact .inr h
/-! ### the law itself: behind its first line the bag stands -/
def isLl : Option HO → Bool
  | some (.frz _ (.lst _)) => true
  | _ => false
theorem isLl_inv {o : Option HO} (h : isLl o = true) : ∃ ob xs, o = some (.frz ob (.lst xs)) := by
  unfold isLl at h
  split at h
  · exact ⟨_, _, rfl⟩
  · cases h
def lawEnds : DEnds := { nx := fun _ => False, rt := fun d _ => d = .bl true }
/-- the rest of the law, for each place of the bag -/
theorem law_rest {X : Cx} {rest : List Stmt} {g : List Addr → FS} (h : ∀ B, DSs X B rest 0 (.own 0) (g B)) : PSs X rest (fun D σ H => ∀ N, (∀ p, N ≤ p → H p = Option.none) → ∃ B, tDS X.K B 0 (.own 0) (g B) D σ H) :=
  ⟨fun pins s σ H D I q => by
    obtain ⟨B, q⟩ := q s.heap.objs.size fun p hp => I.hok.fresh hp
    exact (h B).run pins s σ H D I q⟩
theorem law_start {K : PySem.W.Frag} {g : List Addr → FS} {H H' : Hp} {a b c l : Addr} {cells left : List Int} {n N : Nat} {D : Ends} (hO : Only H) (hN : ∀ p, N ≤ p → H' p = Option.none) (nb : H b = Option.none) (n1 : b ≠ c) (n2 : b ≠ l) (n3 : c ≠ l) (l0 : 0 < cells.length) (l63 : cells.length ≤ 63) (le : left.length = cells.length)
    (hlk : ∀ x o u, H' x = some (.frz o u) → H x = some (.frz o u)) (h1 : H' b = some (.lst [.ref c, .ref l, .int 0])) (h2 : H' c = some (.lst (cells.map V.int))) (h3 : H' l = some (.lst (left.map V.int)))
    (hg : ∀ B, B.head? = some b → g B lawEnds (some (0, .raw (.ref a)) :: some (0, .raw (.ref b)) :: List.replicate n Option.none)) (hD : ∀ H2, D.rt (.bl true) H2) :
    ∃ B, tDS K B 0 (.own 0) (g B) D (some (.ref a) :: some (.ref b) :: List.replicate n Option.none) H' := by
  have hts : ∀ t ∈ (List.range N).filter (fun p => isLl (H' p)), ∃ o xs, H' t = some (.frz o (.lst xs)) := fun t ht => isLl_inv (List.mem_filter.mp ht).2
  have hlock : ∀ x o u, x ∉ b :: c :: l :: (List.range N).filter (fun p => isLl (H' p)) → H' x = some (.frz o u) → isDct u := fun x o u hx e => by
    exfalso
    have e0 := hlk x o u e
    rcases hO x with z | ⟨o', xs, z⟩
    · rw [z] at e0; cases e0
    · rw [z] at e0
      cases e0
      have hxN : x < N := by
        apply Nat.lt_of_not_le
        intro hle
        rw [hN x hle] at e; cases e
      exact hx (by
        refine List.mem_cons_of_mem _ (List.mem_cons_of_mem _ (List.mem_cons_of_mem _ (List.mem_filter.mpr ⟨List.mem_range.mpr hxN, ?_⟩)))
        rw [e]; rfl)
  refine ⟨b :: c :: l :: (List.range N).filter (fun p => isLl (H' p)), [], noH, noH, noH, some (0, .raw (.ref a)) :: some (0, .raw (.ref b)) :: List.replicate n Option.none, [], lawEnds, rfl,
    ⟨⟨fun _ _ e => (by cases e), hlock, .inr ⟨b, c, l, _, cells, left, 0, rfl, hts, h1, h2, h3, n1, n2, n3, Int.le_refl 0, l0, l63, le⟩⟩, ⟨[], [], rfl, ⟨.raw _, rfl⟩, [], [], rfl, ⟨.raw _, rfl⟩, ownE_none n⟩, List.nodup_nil, fun a h => (by cases h), fun _ _ e => (by cases e), fun _ _ => rfl, fun _ _ e => (by cases e), fun _ _ e => (by cases e), fun i v e => (by simp at e)⟩, hg _ rfl, ?_⟩
  refine ⟨fun F H σ ρ fp S h => h.elim, fun F H2 σ ρ fp v d f S hv ap h => ?_, fun F H σ ρ fp S h => h.elim, fun F H σ ρ fp S h => h.elim⟩
  have h : d = .bl true := h
  subst h
  obtain ⟨rfl, _⟩ := hv.bl
  exact hD _
/-- the law's promise -/
def spLaw (K : PySem.W.Frag) : Sp := fun vs H Q _ => ∃ (a : Addr) (ns : List Int), vs = [.ref a] ∧ SqL K H a (ns.map V.int) ∧ ns.length ≤ 63 ∧ Only H ∧ ∀ H', Q (.bl true) H'
end GK

namespace GK
open PySem PySem.Spec PyProof.Rows L2

theorem _root_.L2.Room.u {k : Nat} {A : Around} (hr : Room k A) (n : Nat) (h : n ≤ 200 := by decide) : A.units + n < cLine := by have := hr.un; omega
/-- a def that keeps its promise, by its name -/
structure Cal (P : Program) (w : World) (K : PySem.W.Frag) (mg : Str → Option Value) (base : Heap) (x : Str) (k : Nat) (ps : List Str) (m : Mode) (dd : List D) (W : BSpec) : Prop where
  ex : ∃ (f : Addr) (fd : FuncData) (ds : List Value) (dvs : List V), FnOk P w K mg base CX0 k f fd ps (spD K m W) ∧ mg x = some (.ref f) ∧ PySem.W.keepIn K (.ref f) = true ∧ Binds K fd ps ds ∧ Vals dvs ds ∧ Dflt K dvs dd
/-- a method that changes nothing -/
structure CalM (P : Program) (w : World) (K : PySem.W.Frag) (mg : Str → Option Value) (base : Heap) (C : Addr) (mt : Str) (k : Nat) (ps : List Str) (m : Mode) (dd : List D) (W : BSpec) : Prop where
  cl : Cls K C
  ex : ∃ (f : Addr) (fd : FuncData) (ds : List Value) (dvs : List V), FnOk P w K mg base CX0 k f fd ps (spD K m W) ∧ Meth K C mt f ∧ Binds K fd ps ds ∧ Vals dvs ds ∧ Dflt K dvs dd
/-- a class, by its __init__ -/
structure CalK (P : Program) (w : World) (K : PySem.W.Frag) (mg : Str → Option Value) (base : Heap) (x : Str) (C : Addr) (k n : Nat) (ps : List Str) (m : Mode) (dd : List D) (W : FSpecM) : Prop where
  ex : ∃ (f : Addr) (fd : FuncData) (ds : List Value) (dvs : List V), FnOk P w K mg base CX0 k f fd ps (spM K (n + 1) m W) ∧ Mk K C f ∧ mg x = some (.ref C) ∧ Binds K fd ps ds ∧ Vals dvs ds ∧ Dflt K dvs dd
section
variable {X : Cx} {B : List Addr} {k k' n : Nat} {C : Addr} {ps : List Str} {x : Str} {p pos apos : Pos} {e o : Expr} {es : List Expr} {m : Mode} {ms : List Mode} {fs : FA} {fo : FE} {W : BSpec} {dd : List D}
theorem de_C (c : Cal X.prog X.w X.K X.mg X.base x k ps m dd W) (hr : Room k' X.A) (ha : DA X B (e :: es) ms fs) (hk : k ≤ k' := by decide) (hg : Gl X x := by rfl) (hms : ∀ m ∈ ms, m = .own 0 := by simp)
    (hdb : (x == ("__debug__" : Str)) = false := by decide) (he : starEach (e :: es) X.env = (false, eval e X.env) :: starEach es X.env := by rfl) (hpl : (backTo pos (starEach es X.env)).any (·.1) = false := by rfl) :
    DE X B (.Call (.Name x p) (e :: es) [] pos) m (fArgs (fun xs R => W B (xs ++ dd) R) fs) := by
  obtain ⟨f, fd, ds, dvs, F, hm, kp, hb, hd, hdd⟩ := c.ex
  exact de_call F (hr.mono hk) hg hm kp hb hd hdd ha hms hdb he hpl
theorem de_CR (c : Cal X.prog X.w X.K X.mg X.base x k ps (.own n) dd W) (hr : Room k' X.A) (ha : DA X B (e :: es) ms fs) (hk : k ≤ k' := by decide) (hg : Gl X x := by rfl)
    (hdb : (x == ("__debug__" : Str)) = false := by decide) (he : starEach (e :: es) X.env = (false, eval e X.env) :: starEach es X.env := by rfl) (hpl : (backTo pos (starEach es X.env)).any (·.1) = false := by rfl) :
    DE X B (.Call (.Name x p) (e :: es) [] pos) (.own n) (fArgs (fun xs R => W B (xs ++ dd) fun d => flatN n d = true ∧ R d) fs) := by
  obtain ⟨f, fd, ds, dvs, F, hm, kp, hb, hd, hdd⟩ := c.ex
  exact de_callR F (hr.mono hk) hg hm kp hb hd hdd ha hdb he hpl
theorem de_C0 (c : Cal X.prog X.w X.K X.mg X.base x k ps m dd W) (hr : Room k' X.A) (hk : k ≤ k' := by decide) (hg : Gl X x := by rfl) (hdb : (x == ("__debug__" : Str)) = false := by decide) : DE X B (.Call (.Name x p) [] [] pos) m (fun _ R => W B dd R) := by
  obtain ⟨f, fd, ds, dvs, F, hm, kp, hb, hd, hdd⟩ := c.ex
  exact de_call0 F (hr.mono hk) hg hm kp hb hd hdd hdb
theorem de_Cm {mt : Str} (pl : Sem Bool) (c : CalM X.prog X.w X.K X.mg X.base C mt k ps m dd W) (hr : Room k' X.A) (ho : DE X B o (.own 0) fo) (ha : DA X B (e :: es) ms fs) (hk : k ≤ k' := by decide) (hms : ∀ m ∈ ms, m = .own 0 := by simp)
    (hst : starEach (e :: es) X.env = (false, eval e X.env) :: starEach es X.env := by rfl) (hpl : (backTo pos (starEach es X.env)).any (·.1) = false := by rfl)
    (ht : eval (.Call (.Attribute o mt apos) (e :: es) [] pos) X.env = (do
      let ov ← eval o X.env
      standAt apos.atName
      let (f, first) ← holding [ov] (getMethod ov mt pl)
      callWith pos f first (backTo pos (starEach (e :: es) X.env)) (backToKw pos (keywordEach [] X.env))) := by rfl) :
    DE X B (.Call (.Attribute o mt apos) (e :: es) [] pos) m (fun ρ R => fo ρ fun x => isObjD C mt x ∧ fs ρ fun xs => W B (x :: (xs ++ dd)) R) := by
  obtain ⟨f, fd, ds, dvs, F, hm, hb, hd, hdd⟩ := c.ex
  exact de_meth ho c.cl hm F (hr.mono hk) hb hd hdd ha hms hst hpl ht
theorem de_Cm0 {mt : Str} (pl : Sem Bool) (c : CalM X.prog X.w X.K X.mg X.base C mt k ps m dd W) (hr : Room k' X.A) (ho : DE X B o (.own 0) fo) (hk : k ≤ k' := by decide)
    (ht : eval (.Call (.Attribute o mt apos) [] [] pos) X.env = (do
      let ov ← eval o X.env
      standAt apos.atName
      let (f, first) ← holding [ov] (getMethod ov mt pl)
      callWith pos f first (backTo pos (starEach [] X.env)) (backToKw pos (keywordEach [] X.env))) := by rfl) :
    DE X B (.Call (.Attribute o mt apos) [] [] pos) m (fun ρ R => fo ρ fun x => isObjD C mt x ∧ W B (x :: dd) R) := by
  obtain ⟨f, fd, ds, dvs, F, hm, hb, hd, hdd⟩ := c.ex
  exact de_meth0 ho c.cl hm F (hr.mono hk) hb hd hdd ht
theorem de_Ck {W : FSpecM} (c : CalK X.prog X.w X.K X.mg X.base x C k n ps m dd W) (hr : Room k' X.A) (ha : DA X B (e :: es) ms fs) (hk : k + 1 ≤ k' := by decide) (hg : Gl X x := by rfl) (hms : ∀ m ∈ ms, m = .own 0 := by simp)
    (hdb : (x == ("__debug__" : Str)) = false := by decide) (he : starEach (e :: es) X.env = (false, eval e X.env) :: starEach es X.env := by rfl) (hpl : (backTo pos (starEach es X.env)).any (·.1) = false := by rfl) :
    DE X B (.Call (.Name x p) (e :: es) [] pos) (.own (n + 1)) (fArgs (fun xs R => W (.obj C []) (xs ++ dd) fun d s => d = .non ∧ R s) fs) := by
  obtain ⟨f, fd, ds, dvs, F, M, hm, hb, hd, hdd⟩ := c.ex
  exact de_make M F (hr.mono hk) hg hm hb hd hdd ha hms hdb he hpl
theorem de_Ck0 {W : FSpecM} (c : CalK X.prog X.w X.K X.mg X.base x C k n ps m dd W) (hr : Room k' X.A) (hk : k + 1 ≤ k' := by decide) (hg : Gl X x := by rfl) (hdb : (x == ("__debug__" : Str)) = false := by decide) :
    DE X B (.Call (.Name x p) [] [] pos) (.own (n + 1)) (fun _ R => W (.obj C []) dd fun d s => d = .non ∧ R s) := by
  obtain ⟨f, fd, ds, dvs, F, M, hm, hb, hd, hdd⟩ := c.ex
  exact de_make0 M F (hr.mono hk) hg hm hb hd hdd hdb
end
/-! ### stepping through data -/
theorem fVar_go {i n : Nat} {ρ : Env} {d : D} {R : D → Prop} (e : slot ρ i = some (n, d)) (h : R d) : fVar i n ρ R := by
  unfold fVar; rw [e]; exact ⟨rfl, h⟩
end GK

namespace GK
open PySem PySem.Spec PyProof.Rows L2
abbrev Hol (X : Cx) (scope : Scope) (own : List (Str × Nat)) : Prop := ∀ v ∈ own.map (·.2), ∃ x, X.N[v]? = some x ∧ ∀ C cl, (compEnvC scope cl C X.env).scope.names.lookup x = some .local
theorem hol_nil {X : Cx} {scope : Scope} : Hol X scope [] := fun v h => by cases h
theorem hol_cons {X : Cx} {scope : Scope} {own : List (Str × Nat)} {y x : Str} {i : Nat} (h1 : X.N[i]? = some x) (h2 : ∀ C cl, (compEnvC scope cl C X.env).scope.names.lookup x = some .local) (t : Hol X scope own) : Hol X scope ((y, i) :: own) := fun v h => by
  rcases List.mem_cons.mp h with e | e
  · rw [e]; exact ⟨x, h1, h2⟩
  · exact t v e
/-- a def called with keywords -/
structure CalN (P : Program) (w : World) (K : PySem.W.Frag) (mg : Str → Option Value) (base : Heap) (x : Str) (k : Nat) (ps : List Str) (m : Mode) (n : Nat) (ks : List Str) (gD : List D → List D → List D) (W : BSpec) : Prop where
  ex : ∃ (f : Addr) (fd : FuncData) (g : List Value → List Value → List Value) (gV : List V → List V → List V), FnOk P w K mg base CX0 k f fd ps (spD K m W) ∧ mg x = some (.ref f) ∧ PySem.W.keepIn K (.ref f) = true ∧ KBn K fd ps n ks g gV ∧
    ∀ F vs xs zs ys, RL K F vs xs → RL K F zs ys → RL K F (gV vs zs) (gD xs ys)
theorem de_CN {X : Cx} {B : List Addr} {k k' n : Nat} {ps ks : List Str} {x : Str} {p pos : Pos} {e : Expr} {es : List Expr} {kws : List Keyword} {m : Mode} {ms ms' : List Mode} {fs fk : FA} {W : BSpec} {gD : List D → List D → List D} (c : CalN X.prog X.w X.K X.mg X.base x k ps m n ks gD W) (hr : Room k' X.A)
    (ha : DA X B (e :: es) ms fs) (hkw : DKw X B kws ms' fk) (hk : k ≤ k' := by decide) (hg : Gl X x := by rfl) (hms : ∀ m ∈ ms, m = .own 0 := by simp) (hms' : ∀ m ∈ ms', m = .own 0 := by simp) (hn : (e :: es).length = n := by rfl) (hn' : kws.length = ks.length := by rfl)
    (hl : ms.length = (e :: es).length := by rfl) (hl' : ms'.length = kws.length := by rfl)
    (hall : (backToKw pos (keywordEach kws X.env)).all (·.1.isSome) = true := by rfl) (hks : (backToKw pos (keywordEach kws X.env)).filterMap (·.1) = ks := by rfl)
    (hdb : (x == ("__debug__" : Str)) = false := by decide) (he : starEach (e :: es) X.env = (false, eval e X.env) :: starEach es X.env := by rfl)
    (hpl : ((backTo pos (starEach (e :: es) X.env)).any (·.1) || (backToKw pos (keywordEach kws X.env)).any (·.1.isNone)) = false := by rfl) :
    DE X B (.Call (.Name x p) (e :: es) kws pos) m (fun ρ R => fs ρ fun xs => fk ρ fun ys => W B (gD xs ys) R) := by
  obtain ⟨f, fd, g, gV, F, hm, kp, hb, hgd⟩ := c.ex
  exact de_callN gD F (hr.mono hk) hg hm kp hb hgd ha hkw hms hms' hn hn' hl hl' hall hks hdb he hpl
end GK

namespace GK
open PySem PySem.Spec PyProof.Rows L2

/-! ### loops over data -/
theorem forD_go {t : D → Env → Option Env} {gb : FS} {E : DEnds} (I : List D → Env → Prop) (hs : ∀ x r ρ, I (x :: r) ρ → ∀ N : Env → Prop, (∀ ρ2, I r ρ2 → N ρ2) → ∃ ρ', t x ρ = some ρ' ∧ gb { E with nx := N, ct := N, bk := E.nx } ρ') (hd : ∀ ρ, I [] ρ → E.nx ρ) :
    ∀ xs ρ, I xs ρ → forD t gb xs E ρ
  | [], ρ, h => hd ρ h
  | x :: r, ρ, h => hs x r ρ h _ fun ρ2 h2 => forD_go I hs hd r ρ2 h2
theorem compD_go {t : D → Env → Option Env} {fc : FT} {fe : FE} {ρ : Env} {R : D → Prop} (I : List D → List D → Prop)
    (hs : ∀ x r acc, I (x :: r) acc → ∀ N : List D → Prop, (∀ a, I r a → N a) → ∃ ρ', t x ρ = some ρ' ∧ fc ρ' fun b => if b = true then fe ρ' fun y => acc.length < sizeLine ∧ N (acc ++ [y]) else N acc) (hd : ∀ acc, I [] acc → R (.lst acc)) :
    ∀ xs acc, I xs acc → compD t fc fe ρ xs acc R
  | [], acc, h => hd acc h
  | x :: r, acc, h => hs x r acc h _ fun a h2 => compD_go I hs hd r a h2
/-- each item answers by itself -/
theorem compD_map {Z : Type} (ι : Z → D) (φ : Z → Option D) {t : D → Env → Option Env} {fc : FT} {fe : FE} {ρ : Env} {R : D → Prop} {xs : List Z} (hs : ∀ x ∈ xs, ∀ N : Option D → Prop, N (φ x) → ∃ ρ', t (ι x) ρ = some ρ' ∧ fc ρ' fun b => if b = true then fe ρ' fun y => N (some y) else N none) (hl : xs.length ≤ sizeLine)
    (hR : R (.lst (xs.filterMap φ))) : compD t fc fe ρ (xs.map ι) [] R := by
  have key : ∀ (ys zs : List Z), zs ++ ys = xs → compD t fc fe ρ (ys.map ι) (zs.filterMap φ) R := by
    intro ys
    induction ys with
    | nil =>
      intro zs e
      rw [List.append_nil] at e
      subst e
      exact hR
    | cons x r ih =>
      intro zs e
      have hx : x ∈ xs := by rw [← e]; simp
      have hlen : (zs.filterMap φ).length < sizeLine := by
        have h1 := List.length_filterMap_le φ zs
        have h2 := congrArg List.length e
        rw [List.length_append, List.length_cons] at h2
        omega
      have nxt := ih (zs ++ [x]) (by rw [← e]; simp)
      rw [List.filterMap_append] at nxt
      exact hs x hx (fun o => match o with
        | some y => (zs.filterMap φ).length < sizeLine ∧ compD t fc fe ρ (r.map ι) (zs.filterMap φ ++ [y]) R
        | none => compD t fc fe ρ (r.map ι) (zs.filterMap φ) R) (by
          cases q : φ x with
          | none =>
            have e1 : [x].filterMap φ = [] := by simp [q]
            rw [e1, List.append_nil] at nxt
            exact nxt
          | some y =>
            have e1 : [x].filterMap φ = [y] := by simp [q]
            rw [e1] at nxt
            exact ⟨hlen, nxt⟩)
  exact key xs [] rfl
theorem compDD_map {Z : Type} (ι : Z → D) (step : D → Z → Option D) {t : D → Env → Option Env} {fc : FT} {fk fv : FE} {ρ : Env} {R : D → Prop} {xs : List Z} {acc : D} (hs : ∀ x ∈ xs, ∀ a : D, ∀ N : D → Prop, (∀ a', step a x = some a' → N a') → ∃ ρ', t (ι x) ρ = some ρ' ∧ fc ρ' fun b => if b = true then fk ρ' fun k => fv ρ' fun v => ∃ a', putDD a k v = some a' ∧ N a' else N a)
    (last : D) (hf : xs.foldlM step acc = some last) (hR : R last) : compDD t fc fk fv ρ (xs.map ι) acc R := by
  induction xs generalizing acc with
  | nil =>
    have e : acc = last := Option.some.inj hf
    subst e
    exact hR
  | cons x r ih =>
    rw [List.foldlM_cons] at hf
    cases q : step acc x with
    | none => rw [q] at hf; cases hf
    | some a' =>
      rw [q] at hf
      exact hs x List.mem_cons_self acc (fun a => compDD t fc fk fv ρ (r.map ι) a R) fun a2 e2 => by
        rw [q] at e2
        cases e2
        exact ih (fun y hy => hs y (List.mem_cons_of_mem _ hy)) hf
/-- .. from any state on -/
theorem compDD_go {t : D → Env → Option Env} {fc : FT} {fk fv : FE} {ρ : Env} {R : D → Prop} (I : List D → D → Prop)
    (hs : ∀ x r acc, I (x :: r) acc → ∀ N : D → Prop, (∀ a, I r a → N a) → ∃ ρ', t x ρ = some ρ' ∧ fc ρ' fun b => if b = true then fk ρ' fun k => fv ρ' fun v => ∃ a', putDD acc k v = some a' ∧ N a' else N acc) (hd : ∀ acc, I [] acc → R acc) :
    ∀ xs acc, I xs acc → compDD t fc fk fv ρ xs acc R
  | [], acc, h => hd acc h
  | x :: r, acc, h => hs x r acc h _ fun a h2 => compDD_go I hs hd r a h2
/-! ### small steps -/
theorem gIsi_go {K : PySem.W.Frag} {d : D} {a n : String} {b : Bool} {R : D → Prop} (ht : tyD d = some (.type a)) (hk : kitB a n = some b) (hn : ∀ C es, d ≠ .obj C es) (h : R (.bl b)) : gIsi K [d, .raw (.ty n)] R :=
  ⟨_, _, b, ht, rfl, kit_ty hk, fun C es e => absurd e (hn C es), h⟩
theorem gFld_go {C : Addr} {f : Str} {es : List (Str × D)} {d : D} {R : D → Prop} (h : es.lookup f = some d) (q : R d) : gFld C f (.obj C es) R := ⟨rfl, d, h, q⟩
theorem gNotV_bl {b : Bool} {R : D → Prop} : gNotV (.bl b) R = R (.bl (!b)) := rfl
theorem gEqA_int {n : Bool} {i j : Int} {R : D → Prop} : gEqA n (.int i) (.int j) R = R (.bl (n ^^ decide (i = j))) := rfl
theorem gEqA_str {n : Bool} {i j : Str} {R : D → Prop} : gEqA n (.str i) (.str j) R = R (.bl (n ^^ decide (i = j))) := rfl
theorem gEqA_bl {n : Bool} {i j : Bool} {R : D → Prop} : gEqA n (.bl i) (.bl j) R = R (.bl (n ^^ decide (i = j))) := rfl
theorem bOf_bl {b : Bool} {R : Bool → Prop} : bOf R (.bl b) = R b := rfl
theorem g2I_int {c : Int → Int → Prop} {h : Int → Int → D} {i j : Int} {R : D → Prop} : g2I c h (.int i) (.int j) R = (c i j ∧ R (h i j)) := rfl
theorem g2I0_int {h : Int → Int → D} {i j : Int} {R : D → Prop} : g2I0 h (.int i) (.int j) R = R (h i j) := rfl
theorem g1I_int {h : Int → D} {i : Int} {R : D → Prop} : g1I h (.int i) R = R (h i) := rfl
theorem gLen_lst {ds : List D} {R : D → Prop} : gLen [.lst ds] R = R (.int ds.length) := rfl
theorem gLen_tup {ds : List D} {R : D → Prop} : gLen [.tup ds] R = R (.int ds.length) := rfl
theorem gInt_int {i : Int} {R : D → Prop} : gInt [.int i] R = R (.int i) := rfl
theorem gMax2_int {i j : Int} {R : D → Prop} : gMax2 [.int i, .int j] R = R (.int (if j > i then j else i)) := rfl
theorem gMin2_int {i j : Int} {R : D → Prop} : gMin2 [.int i, .int j] R = R (.int (if j < i then j else i)) := rfl
theorem gIsN_non {n : Bool} {R : D → Prop} : gIsN n .non .non R = R (.bl (!n)) := rfl
theorem gIsN_obj {n : Bool} {C : Addr} {es : List (Str × D)} {R : D → Prop} : gIsN n (.obj C es) .non R = R (.bl n) := rfl
theorem gIsN_dT {n : Bool} {es : List (List Key × D)} {R : D → Prop} : gIsN n (.dT es) .non R = R (.bl n) := rfl
theorem gIsN_dK {n : Bool} {es : List (Key × D)} {R : D → Prop} : gIsN n (.dK es) .non R = R (.bl n) := rfl
theorem gIsN_int {n : Bool} {i : Int} {R : D → Prop} : gIsN n (.int i) .non R = R (.bl n) := rfl
theorem xsOf_lst {xs : List D} {R : List D → Prop} : xsOf R (.lst xs) = R xs := rfl
theorem tsOf_tup {xs : List D} {R : List D → Prop} : tsOf R (.tup xs) = R xs := rfl
theorem atI_0 {α : Type} {a : α} {r : List α} : atI (a :: r) 0 = some a := by
  unfold atI ixN
  rw [if_pos (by decide), if_pos (by rw [List.length_cons]; omega)]; rfl
theorem atI_1 {α : Type} {a b : α} {r : List α} : atI (a :: b :: r) 1 = some b := by
  unfold atI ixN
  rw [if_pos (by decide), if_pos (by rw [List.length_cons, List.length_cons]; omega)]; rfl
theorem atI_2 {α : Type} {a b c : α} {r : List α} : atI (a :: b :: c :: r) 2 = some c := by
  unfold atI ixN
  rw [if_pos (by decide), if_pos (by rw [List.length_cons, List.length_cons, List.length_cons]; omega)]; rfl
theorem ex_some {α : Type} {a : α} {R : α → Prop} : (∃ d, some a = some d ∧ R d) = R a := by
  apply propext
  exact ⟨fun ⟨d, e, h⟩ => by cases e; exact h, fun h => ⟨a, rfl, h⟩⟩
theorem gIx_t0 {a : D} {r : List D} {R : D → Prop} : gIx (.tup (a :: r)) (.int 0) R = R a := by
  show (∃ d, atI (a :: r) 0 = some d ∧ R d) = R a
  rw [atI_0]; exact ex_some
theorem gIx_t1 {a b : D} {r : List D} {R : D → Prop} : gIx (.tup (a :: b :: r)) (.int 1) R = R b := by
  show (∃ d, atI (a :: b :: r) 1 = some d ∧ R d) = R b
  rw [atI_1]; exact ex_some
theorem gIx_l0 {a : D} {r : List D} {R : D → Prop} : gIx (.lst (a :: r)) (.int 0) R = R a := by
  show (∃ d, atI (a :: r) 0 = some d ∧ R d) = R a
  rw [atI_0]; exact ex_some
theorem gIx_l1 {a b : D} {r : List D} {R : D → Prop} : gIx (.lst (a :: b :: r)) (.int 1) R = R b := by
  show (∃ d, atI (a :: b :: r) 1 = some d ∧ R d) = R b
  rw [atI_1]; exact ex_some
theorem gIx_l2 {a b c : D} {r : List D} {R : D → Prop} : gIx (.lst (a :: b :: c :: r)) (.int 2) R = R c := by
  show (∃ d, atI (a :: b :: c :: r) 2 = some d ∧ R d) = R c
  rw [atI_2]; exact ex_some
/-- an item of a list by its number -/
theorem gIx_nat {ds : List D} {k : Nat} {d : D} {R : D → Prop} (h : ds[k]? = some d) (q : R d) : gIx (.lst ds) (.int (k : Int)) R := by
  refine ⟨d, ?_, q⟩
  have hk := (List.getElem?_eq_some_iff.mp h).1
  unfold atI ixN
  rw [if_pos (by omega), if_pos (by omega)]
  exact h
theorem tgN_go {i : Nat} {d : D} {ρ : Env} (h : i < ρ.length) : tgN i d ρ = some (ρ.set i (some (0, d))) := if_pos h
theorem fVar_0 {n k : Nat} {d : D} {r : Env} {R : D → Prop} : fVar 0 n (some (k, d) :: r) R = (k = n ∧ R d) := rfl
theorem fVar_s {i n : Nat} {o : Option (Nat × D)} {r : Env} {R : D → Prop} : fVar (i + 1) n (o :: r) R = fVar i n r R := rfl
theorem wipe_nil {ρ : Env} : wipeE ρ [] = ρ := rfl
theorem wipe_cons {ρ : Env} {v : Nat} {vs : List Nat} : wipeE ρ (v :: vs) = (wipeE ρ vs).set v none := rfl
end GK

namespace GK
open PySem PySem.Spec PyProof.Rows L2

/-! ### C(..), the arguments some that others own -/
theorem Post.ofRd {K : PySem.W.Frag} {B A : List Addr} {F H : Hp} {n : Nat} {R : D → Prop} {Q : VK} (w : WF B F H) (k : Post K B A F H (.own n) R Q) : Post K B [] (rdH B H) H (.own n) (fun d => flatN n d = true ∧ R d) Q := fun F' H' v d fp s hv ho hn hR => by
  have hv : Own K F' H' n v d fp := hv
  have s2 : Step B A F H F H' := ⟨s.same, fun _ _ h => h, fun _ _ h => .inl h, ⟨fun a u e => rdH_same s.same a u (w.sub a u e), s.wf.lock, s.wf.bag⟩⟩
  have ht := hv.there
  refine k _ H' v d fp s2.addT (Own.flat (fun a vs e => addT_tup s2.wf.sub (s.wf.sub _ _ e)) hR.1 hv) (fun a ha => ?_) hn hR.2
  obtain ⟨h1, h2, h3⟩ := ho a ha
  refine ⟨h1.elim (fun h => by cases h) .inr, ?_, h3⟩
  have hz : H a = none := h1.elim (fun h => by cases h) id
  obtain ⟨o, e, mu⟩ := ht a ha
  cases q : addT F (rdH B H') a with
  | none => rfl
  | some u =>
    exfalso
    rcases addT_cases q with z | ⟨z, t⟩
    · rw [F_none w hz] at z; cases z
    · obtain ⟨_, x, ex, er⟩ := rdH_some z
      rw [e] at ex; cases ex
      rw [mut_er mu] at er; subst er
      cases o <;> first | exact mu | exact t
theorem de_CkR {X : Cx} {B : List Addr} {k k' n : Nat} {C : Addr} {ps : List Str} {x : Str} {p pos : Pos} {e : Expr} {es : List Expr} {m : Mode} {ms : List Mode} {fs : FA} {dd : List D} {W : FSpecM} (c : CalK X.prog X.w X.K X.mg X.base x C k n ps m dd W) (hr : Room k' X.A) (ha : DA X B (e :: es) ms fs)
    (hk : k + 1 ≤ k' := by decide) (hg : Gl X x := by rfl) (hdb : (x == ("__debug__" : Str)) = false := by decide) (he : starEach (e :: es) X.env = (false, eval e X.env) :: starEach es X.env := by rfl) (hpl : (backTo pos (starEach es X.env)).any (·.1) = false := by rfl) :
    DE X B (.Call (.Name x p) (e :: es) [] pos) (.own (n + 1)) (fArgs (fun xs R => W (.obj C []) (xs ++ dd) fun d s => d = .non ∧ flatN (n + 1) s = true ∧ R s) fs) := by
  obtain ⟨f, fd, ds, dvs, F, M, hm, hb, hd, hdd⟩ := c.ex
  exact PE.imp (pe_make M F (hr.mono hk) hg hm hb hd pass0 ha hdb he hpl) fun σ H Q ⟨F, ρ, fp, R, S, hf, k⟩ => ⟨F, ρ, fp, _, S, hf, fun F1 H1 vs xs fp1 s1 hv o1 n1 hW x dx hx hdx ne =>
    make_ok (wf_rd s1.wf) ((hv.rd s1.wf fun a ha => (o1 a ha).2.2).append (hdd _)) hx hdx ne hW ((k.after s1 (A1 := fp1) fun a ha => (o1 a ha).1).ofRd s1.wf)⟩
end GK

namespace GK
open PySem PySem.Spec PyProof.Rows L2
def topS (i : Nat) : Stmt := PySem.Challenge.pw_giftskept_k26_cost_of_a_change.main.body.getD i (.Pass ⟨0, 0, 0, 0⟩)
structure Bi (mg : Str → Option Value) : Prop where
  bool_ : mg "bool" = none
  int_ : mg "int" = none
  isinstance_ : mg "isinstance" = none
  len_ : mg "len" = none
  list_ : mg "list" = none
  max_ : mg "max" = none
  min_ : mg "min" = none
  range_ : mg "range" = none
  sorted_ : mg "sorted" = none
  tuple_ : mg "tuple" = none
structure KPlan (K : PySem.W.Frag) (C : Addr) : Prop where
  cl : Cls K C
  n_table : NoAttr K C "table"
end GK

namespace GK
open PySem PySem.Spec PyProof.Rows L2
abbrev sDraw : Stmt := topS 10
section
variable {P : Program} {w : World} {K : PySem.W.Frag} {mg : Str → Option Value} {base : Heap}
theorem scDraw : FnScope ["bag", "size", "turn", "at", "cell", "left", "number", "mixed"] ["bag", "size"] (defScope sDraw) := ⟨rfl, rfl, rfl, by decide +kernel, rfl, by decide +kernel, by decide +kernel⟩
theorem ok_draw {f : Addr} {fd : FuncData} (F : Fun K "_law_draw" "_law_draw" sDraw f fd) (mi : mg "int" = none) (ml : mg "len" = none) : FnOk P w K mg base CX0 1 f fd ["bag", "size"] (spD K m wDraw) := by
  refine F.ok scDraw (fun vs H Q E ⟨B, F, ds, R, w, r, ⟨b, size, hb, e, _⟩, k⟩ => by rw [r.length, e]; rfl) fun cdv A outer s H vs Q E hr ⟨B, F, ds, R, w, r, ⟨b, size, hb, e, h0, hz, hR⟩, k⟩ => ?_
  subst e
  obtain ⟨v0, v1, rfl, r0, r1⟩ : ∃ v0 v1, vs = [v0, v1] ∧ GK.R K F v0 (.raw (.ref b)) ∧ GK.R K F v1 (.int size) := by
    cases r with
    | cons h t =>
      cases t with
      | cons h' t' => cases t'; exact ⟨_, _, rfl, h, h'⟩
  cases r0
  cases r1
  rcases w.bag with e | ⟨b', c, l, ts, cells, left, turn, eB, ht, h1, h2, h3, n1, n2, n3, t0, l0, l63, le⟩
  · rw [e] at hb; cases hb
  rw [eB] at hb
  cases hb
  refine ⟨_, pss_cons (ps_set (i := 2) scDraw.nd rfl (Or.inl rfl) (pe_ix ix_seq (pv 0) pe_int fun _ _ => rfl))
    (pss_cons (ps_asg (pe_op op_add (pv 2) pe_int) (pg_sub (pv 0) pe_int set_list fun _ => rfl))
    (pss_cons (ps_set (i := 3) scDraw.nd rfl (Or.inl rfl) (pe_op op_mod (pe_callTy call_int1 rfl mi (by decide +kernel) (pa_cons (pv 2) pa_nil)) (pe_callB call_len_seq rfl ml PySem.boot_len (pa_cons (pe_ix ix_seq (pv 0) pe_int fun _ _ => rfl) pa_nil))))
    (pss_cons (ps_set (i := 4) scDraw.nd rfl (Or.inl rfl) (pe_ix ix_seq (pe_ix ix_seq (pv 0) pe_int fun _ _ => rfl) (pv 3) fun _ _ => rfl))
    (pss_cons (ps_set (i := 5) scDraw.nd rfl (Or.inl rfl) (pe_ix ix_seq (pv 0) pe_int fun _ _ => rfl))
    (pss_cons (ps_if (pw_and (pt_cmpR op_ge (pv 4) pe_int (nomark _)) (pw_and1 (pt_cmpR op_gt (pe_ix ix_seq (pv 5) (pv 3) fun _ _ => rfl) pe_int (nomark _)))).pt
      (pss_cons (ps_set (i := 6) scDraw.nd rfl (Or.inl rfl) (pe_op op_mod (pe_callTy call_int1 rfl mi (by decide +kernel) (pa_cons (pe_ix ix_seq (pv 5) (pv 3) fun _ _ => rfl) pa_nil)) (pv 1)))
      (pss_cons (ps_asg (pe_op op_fdivW (pe_ix ix_seq (pv 5) (pv 3) fun _ _ => rfl) (pv 1)) (pg_sub (pv 5) (pv 3) set_list fun _ => rfl))
      (pss_one (ps_ret (pv 6))))) pss_nil)
    (pss_cons (ps_set (i := 7) scDraw.nd rfl (Or.inl rfl) (pe_op op_mod (pe_callTy call_int1 rfl mi (by decide +kernel) (pa_cons (pe_op op_add (pe_op op_add (pv 4) (pe_op op_mul pe_int (pv 2))) pe_int) pa_nil)) pe_int))
    (pss_cons (ps_set (i := 7) scDraw.nd rfl (Or.inl rfl) (pe_op op_mod (pe_callTy call_int1 rfl mi (by decide +kernel) (pa_cons (pe_op op_mul (pv 7) (pe_op op_add (pv 7) pe_int)) pa_nil)) pe_int))
    (pss_cons (ps_set (i := 7) scDraw.nd rfl (Or.inl rfl) (pe_op op_mod (pe_callTy call_int1 rfl mi (by decide +kernel) (pa_cons (pe_op op_add (pe_op op_mul (pv 7) (pe_op op_add (pv 7) pe_int)) (pe_op op_mul pe_int (pv 2))) pa_nil)) pe_int))
    (pss_one (ps_ret (pe_op op_mod (pe_callTy call_int1 rfl mi (by decide +kernel) (pa_cons (pe_op op_fdiv (pv 7) pe_int) pa_nil)) (pv 1)))))))))))), ?_⟩
  -- the turn
  refine ⟨_, rfl, .inl ⟨b, _, 2, .int turn, rfl, rfl, SqL.of h1, rfl, ?_⟩⟩
  refine ⟨_, rfl, _, _, rfl, rfl, ?_⟩
  refine ⟨_, rfl, b, _, 2, 2, rfl, rfl, h1, rfl, ?_⟩
  have h1' : upd H b (.lst [.ref c, .ref l, .int (turn + 1)]) b = some (.lst [.ref c, .ref l, .int (turn + 1)]) := upd_same
  have h2' : upd H b (.lst [.ref c, .ref l, .int (turn + 1)]) c = some (.lst (cells.map V.int)) := by rw [upd_ne n1.symm]; exact h2
  have h3' : upd H b (.lst [.ref c, .ref l, .int (turn + 1)]) l = some (.lst (left.map V.int)) := by rw [upd_ne n2.symm]; exact h3
  have hlen : ((cells.map V.int).length : Int) = cells.length := by rw [List.length_map]
  have a0 : 0 ≤ turn % (cells.length : Int) := Int.emod_nonneg _ (by omega)
  have a1 : turn % (cells.length : Int) < cells.length := Int.emod_lt_of_pos _ (by omega)
  obtain ⟨cell, hc⟩ := atI_ints (ns := cells) a0 a1
  obtain ⟨lf, hl⟩ := atI_ints (ns := left) a0 (by rw [le]; exact a1)
  have last : ∀ (H' : Hp) (left' : List Int) (x : Int), (∀ a, a ≠ b → a ≠ l → H' a = H a) → H' b = some (.lst [.ref c, .ref l, .int (turn + 1)]) → H' l = some (.lst (left'.map V.int)) → left'.length = cells.length → Q (.int (x % size)) H' := fun H' left' x q1 q2 q3 q4 =>
    k F H' (.int (x % size)) (.int (x % size)) [] (bag_upd w eB ht h1 h2 h3 n1 n2 n3 l0 l63 q1 q2 (by omega) q3 q4) (Val.atom rfl fun _ => .int _) (fun a h => (by cases h)) List.nodup_nil (hR _ (Int.emod_nonneg _ (by omega)) (Int.emod_lt_of_pos _ h0))
  rw [← hlen] at a0 hc hl
  refine ⟨_, rfl, .inl ⟨_, rfl, _, rfl, .inl ⟨b, _, 0, .ref c, rfl, rfl, SqL.of h1', rfl, c, _, rfl, .inl (SqL.of h2'), _, _, rfl, rfl, (by rw [hlen]; omega), ?_⟩⟩⟩
  refine ⟨_, rfl, .inl ⟨b, _, 0, .ref c, rfl, rfl, SqL.of h1', rfl, _, rfl, .inl ⟨c, _, _, _, rfl, rfl, SqL.of h2', hc, ?_⟩⟩⟩
  refine ⟨_, rfl, .inl ⟨b, _, 1, .ref l, rfl, rfl, SqL.of h1', rfl, ?_⟩⟩
  refine ⟨_, rfl, _, _, rfl, rfl, _, rfl, ?_⟩
  dsimp only
  by_cases hcell : (1000000000000000000 : Int) ≤ cell
  · rw [if_pos (decide_eq_true hcell)]
    refine ⟨_, rfl, _, rfl, .inl ⟨l, _, _, _, rfl, rfl, SqL.of h3', hl, _, _, rfl, rfl, _, rfl, ?_⟩⟩
    dsimp only
    by_cases hlf : (0 : Int) < lf
    · rw [if_pos (decide_eq_true hlf)]
      obtain ⟨_, kx, _, hix, hkl⟩ := atI_at hl a0
      refine ⟨_, rfl, _, rfl, .inl ⟨l, _, _, _, rfl, rfl, SqL.of h3', hl, .inl ⟨_, rfl, _, rfl, _, _, rfl, rfl, h0, ?_⟩⟩⟩
      refine ⟨_, rfl, _, rfl, .inl ⟨l, _, _, _, rfl, rfl, SqL.of h3', hl, _, rfl, _, _, rfl, rfl, ⟨h0, hz⟩, _, rfl, _, rfl, l, _, _, kx, rfl, rfl, h3', hix, ?_⟩⟩
      refine ⟨_, rfl, last _ (left.set kx (lf / size)) _ (fun a q1 q2 => by rw [upd_ne q2, upd_ne q1]) (by rw [upd_ne n2]; exact h1') (by rw [upd_same, List.map_set]) (by rw [List.length_set]; exact le)⟩
    · rw [if_neg (by rw [decide_eq_false hlf]; exact Bool.false_ne_true)]
      refine ⟨_, rfl, _, rfl, _, _, rfl, rfl, .inl ⟨by decide, by decide⟩, _, _, rfl, rfl, _, _, rfl, rfl, .inl ⟨_, rfl, _, _, rfl, rfl, (by dsimp only; decide), ?_⟩⟩
      have small : ∀ x : Int, -(2 ^ 64) < x % 2147483647 ∧ x % 2147483647 < 2 ^ 64 := fun x => by have := Int.emod_nonneg x (b := 2147483647) (by decide); have := Int.emod_lt_of_pos x (b := 2147483647) (by decide); omega
      have small' : ∀ x : Int, -(2 ^ 64) < x % 2147483629 ∧ x % 2147483629 < 2 ^ 64 := fun x => by have := Int.emod_nonneg x (b := 2147483629) (by decide); have := Int.emod_lt_of_pos x (b := 2147483629) (by decide); omega
      refine ⟨_, rfl, _, rfl, _, _, rfl, rfl, _, _, rfl, rfl, .inl (small _), .inl ⟨_, rfl, _, _, rfl, rfl, (by dsimp only; decide), ?_⟩⟩
      refine ⟨_, rfl, _, rfl, _, _, rfl, rfl, _, _, rfl, rfl, .inl (small' _), _, rfl, _, _, rfl, rfl, .inl ⟨by decide, by decide⟩, _, _, rfl, rfl, .inl ⟨_, rfl, _, _, rfl, rfl, (by dsimp only; decide), ?_⟩⟩
      refine ⟨_, rfl, _, _, rfl, rfl, ⟨by decide, by decide⟩, .inl ⟨_, rfl, _, rfl, _, _, rfl, rfl, h0, ?_⟩⟩
      exact last _ left _ (fun a q1 _ => upd_ne q1) h1' h3' le
  · rw [if_neg (by rw [decide_eq_false hcell]; exact Bool.false_ne_true)]
    rw [if_neg Bool.false_ne_true]
    refine ⟨_, rfl, _, rfl, _, _, rfl, rfl, .inl ⟨by decide, by decide⟩, _, _, rfl, rfl, _, _, rfl, rfl, .inl ⟨_, rfl, _, _, rfl, rfl, (by dsimp only; decide), ?_⟩⟩
    have small : ∀ x : Int, -(2 ^ 64) < x % 2147483647 ∧ x % 2147483647 < 2 ^ 64 := fun x => by have := Int.emod_nonneg x (b := 2147483647) (by decide); have := Int.emod_lt_of_pos x (b := 2147483647) (by decide); omega
    have small' : ∀ x : Int, -(2 ^ 64) < x % 2147483629 ∧ x % 2147483629 < 2 ^ 64 := fun x => by have := Int.emod_nonneg x (b := 2147483629) (by decide); have := Int.emod_lt_of_pos x (b := 2147483629) (by decide); omega
    refine ⟨_, rfl, _, rfl, _, _, rfl, rfl, _, _, rfl, rfl, .inl (small _), .inl ⟨_, rfl, _, _, rfl, rfl, (by dsimp only; decide), ?_⟩⟩
    refine ⟨_, rfl, _, rfl, _, _, rfl, rfl, _, _, rfl, rfl, .inl (small' _), _, rfl, _, _, rfl, rfl, .inl ⟨by decide, by decide⟩, _, _, rfl, rfl, .inl ⟨_, rfl, _, _, rfl, rfl, (by dsimp only; decide), ?_⟩⟩
    refine ⟨_, rfl, _, _, rfl, rfl, ⟨by decide, by decide⟩, .inl ⟨_, rfl, _, rfl, _, _, rfl, rfl, h0, ?_⟩⟩
    exact last _ left _ (fun a q1 _ => upd_ne q1) h1' h3' le
end
end GK

namespace GK
open PySem PySem.Spec PyProof.Rows L2
abbrev sBag : Stmt := topS 9
section
variable {P : Program} {w : World} {K : PySem.W.Frag} {mg : Str → Option Value} {base : Heap}
theorem scBag : FnScope ["script", "cells", "cell"] ["script"] (defScope sBag) := ⟨rfl, rfl, rfl, by decide +kernel, rfl, by decide +kernel, by decide +kernel⟩
theorem ok_bag {f : Addr} {fd : FuncData} (F : Fun K "_law_bag" "_law_bag" sBag f fd) (mi : mg "int" = none) (ml : mg "len" = none) (mL : mg "list" = none) : FnOk P w K mg base CX0 1 f fd ["script"] (spBag K) := by
  refine F.ok scBag (fun vs H Q E ⟨a, ns, e, _⟩ => by rw [e]; rfl) fun cdv A outer s H vs Q E hr ⟨a, ns, e, hs, hlen, k⟩ => ?_
  subst e
  refine ⟨_, pss_cons (ps_setLc (i := 1) (own := [("cell", 2)]) rfl scBag.nd rfl rfl (sw_true rfl rfl rfl rfl) (pi_list (pe_slice sl_list (pv 0) po_none (po_some pe_int))) (blk_of ["script", "cells", "cell"] (defScope sBag) rfl (by decide +kernel) (by decide +kernel) (by decide +kernel) (by decide +kernel))
      (fun _ _ _ _ _ => pg_name (i := 2) scBag.nd rfl (Or.inl rfl) (Or.inr rfl)) (fun _ _ _ _ _ => pts_nil) (fun _ _ _ _ _ => pe_callTy call_int1 rfl mi (by decide +kernel) (pa_cons (pv 2) pa_nil)))
    (pss_cons (ps_if (pt_cmpR op_eq (pe_callB call_len_seq rfl ml PySem.boot_len (pa_cons (pv 1) pa_nil)) pe_int (nomark _)) (pss_one (ps_set (i := 1) scBag.nd rfl (Or.inl rfl) (pe_lst (pa_cons pe_int pa_nil)))) pss_nil)
    (pss_one (ps_ret (pe_lst (pa_cons (pv 1) (pa_cons (pe_callTy call_list_of rfl mL (by decide +kernel) (pa_cons (pv 1) pa_nil)) (pa_cons pe_int pa_nil))))))), ?_⟩
  refine ⟨_, rfl, 63, rfl, a, _, rfl, hs, fun p hp => ?_⟩
  obtain ⟨ms, em, lm⟩ := cut_ints ns Option.none (some 63)
  rw [em]
  have e0 : Ext H (upd H p (.lst (ms.map V.int))) := Ext.refl.put hp
  refine ⟨p, rfl, ⟨_, SqL.of upd_same⟩, fun Dc hD => ?_⟩
  have hpD : p ≠ Dc := fun z => by rw [← z, upd_same] at hD; cases hD
  have hD0 : H Dc = Option.none := e0.none hD
  refine lc_list (fun i H' => ∃ acc : List Int, acc.length = i ∧ H' = upd (upd H p (.lst (ms.map V.int))) Dc (.lst (acc.map V.int))) ⟨[], rfl, rfl⟩ (fun i H' _ ⟨acc, _, eH⟩ => SqL.of (by rw [eH, upd_ne hpD]; exact upd_same)) ?_ ?_
  · rintro i x H' hx ⟨acc, la, rfl⟩
    have hi : i < ms.length := by
      have := (List.getElem?_eq_some_iff.mp hx).1
      rw [List.length_map] at this; exact this
    obtain ⟨m, rfl⟩ : ∃ m, x = V.int m := by
      rw [List.getElem?_map, List.getElem?_eq_getElem hi] at hx
      exact ⟨_, (Option.some.inj hx).symm⟩
    have hsz : acc.length < sizeLine := by rw [la]; exact Nat.lt_of_lt_of_le hi (by have : sizeLine = 16777216 := by decide
                                                                                    omega)
    refine ⟨rfl, ?_⟩
    unfold tYes
    dsimp only
    rw [if_pos rfl]
    refine ⟨_, rfl, .inl ⟨m, rfl, _, upd_same, by rw [List.length_map]; exact hsz, acc ++ [m], by rw [List.length_append, la]; rfl, ?_⟩⟩
    rw [upd_upd, List.map_append]; rfl
  · rintro H' ⟨acc, la, rfl⟩
    rw [List.length_map] at la
    have e1 : Ext H (upd (upd H p (.lst (ms.map V.int))) Dc (.lst (acc.map V.int))) := e0.put hD0
    have a63 : acc.length ≤ 63 := by omega
    -- the end, from the cells at q
    have fin : ∀ (H1 : Hp) (q : Addr) (cells : List Int), Ext H H1 → H q = Option.none → H1 q = some (.lst (cells.map V.int)) → 0 < cells.length → cells.length ≤ 63 → ∀ l b, H1 l = Option.none → upd H1 l (.lst (cells.map V.int)) b = Option.none → Q (.ref b) (upd (upd H1 l (.lst (cells.map V.int))) b (.lst [.ref q, .ref l, .int 0])) := fun H1 q cells ex hq h1 c0 c63 l b hl hb => by
      have hlq : q ≠ l := fun z => by rw [z, hl] at h1; cases h1
      have hbl : b ≠ l := fun z => by rw [z, upd_same] at hb; cases hb
      have hb1 : H1 b = Option.none := by rw [upd_ne hbl] at hb; exact hb
      have hbq : b ≠ q := fun z => by rw [z, h1] at hb1; cases hb1
      have ee := (ex.put (xs := cells.map V.int) (ex.none hl)).put (xs := [.ref q, .ref l, .int 0]) (ex.none hb1)
      exact k b q l cells cells _ (ex.none hb1) hbq hbl hlq c0 c63 rfl ee.1 ee.2 upd_same (by rw [upd_ne hbq.symm, upd_ne hlq]; exact h1) (by rw [upd_ne hbl.symm]; exact upd_same)
    refine ⟨_, rfl, Dc, _, rfl, .inl (SqL.of upd_same), ?_⟩
    refine ⟨rfl, _, rfl, ?_⟩
    dsimp only
    by_cases h0 : acc.length = 0
    · rw [if_pos (decide_eq_true (by rw [List.length_map, h0]; rfl))]
      refine ⟨by show 1 ≤ sizeLine; decide, fun q hq => ?_⟩
      have ex2 := e1.put (xs := [V.int 0]) (e1.none hq)
      refine ⟨_, rfl, _, rfl, q, _, rfl, .inl (SqL.of upd_same), fun l hl => ⟨by show 3 ≤ sizeLine; decide, fun b hb => ?_⟩⟩
      exact fin _ q [0] ex2 (e1.none hq) upd_same (by decide) (by decide) l b hl hb
    · rw [if_neg (by
        rw [decide_eq_false]
        · exact Bool.false_ne_true
        · intro z
          have := V.int.inj z
          rw [List.length_map] at this
          omega)]
      refine ⟨_, rfl, _, rfl, Dc, _, rfl, .inl (SqL.of upd_same), fun l hl => ⟨by show 3 ≤ sizeLine; decide, fun b hb => ?_⟩⟩
      exact fin _ Dc acc e1 hD0 upd_same (by omega) a63 l b hl hb
end
end GK

namespace GK
open PySem PySem.Spec PyProof.Rows L2
def wayT (ks : List Str) : D := .tup (ks.map .str)
def tabE (es : List (List Str × Int)) : List (List Key × D) := es.map fun e => (e.1.map Sum.inr, D.int e.2)
def tabD (es : List (List Str × Int)) : D := .dT (tabE es)
def lk (es : List (List Str × Int)) (k : List Str) : Option Int := (es.find? fun e => decide (e.1 = k)).map (·.2)
def planD (C : Addr) (es : List (List Str × Int)) : D := .obj C [("table", tabD es)]
def strOk (s : Str) : Bool := s.cps.all (· < 0x110000)
def wayOk (ks : List Str) : Prop := ks ≠ [] ∧ ∀ s ∈ ks, strOk s = true
def tabOk (es : List (List Str × Int)) : Prop := ∀ e ∈ es, wayOk e.1
theorem keysOf_way : ∀ ks : List Str, keysOf (ks.map .str) = some (ks.map Sum.inr)
  | [] => rfl
  | s :: r => by
    show (match keyOf (.str s), keysOf (r.map .str) with
      | some k, some ks => some (k :: ks)
      | _, _ => none) = _
    rw [keysOf_way r]; rfl
theorem keyT_way (ks : List Str) : keyT (wayT ks) = some (ks.map Sum.inr) := keysOf_way ks
theorem inr_inj {a b : List Str} (h : a.map (Sum.inr : Str → Key) = b.map Sum.inr) : a = b := by
  induction a generalizing b with
  | nil => cases b with
    | nil => rfl
    | cons x y => cases h
  | cons x r ih => cases b with
    | nil => cases h
    | cons y s =>
      rw [List.map_cons, List.map_cons] at h
      injection h with h1 h2
      injection h1 with h1
      rw [h1, ih h2]
theorem get_tab (k : List Str) : ∀ es : List (List Str × Int), getD' (tabE es) (k.map Sum.inr) = (lk es k).map .int
  | [] => rfl
  | e :: r => by
    have ih := get_tab k r
    unfold getD' tabE lk at ih ⊢
    rw [List.map_cons, List.find?_cons, List.find?_cons]
    by_cases h : e.1 = k
    · simp [h]
    · have h' : ¬ e.1.map (Sum.inr : Str → Key) = k.map Sum.inr := fun z => h (inr_inj z)
      rw [decide_eq_false h, decide_eq_false h']
      exact ih
theorem look_tab (es : List (List Str × Int)) (k : List Str) : lookD (tabD es) (wayT k) = some ((lk es k).map .int) := by
  show (keyT (wayT k)).map (fun k => getD' (tabE es) k) = _
  rw [keyT_way]
  exact congrArg some (get_tab k es)
def leW (a b : List Str) : Bool := leD (wayT a) (wayT b)
theorem toP_way (ks : List Str) : toP (wayT ks) = .tuple (ks.map .str) := by
  have : ∀ l : List Str, toPs (l.map D.str) = l.map PyData.str := fun l => by
    induction l with
    | nil => rfl
    | cons x r ih =>
      show toP (.str x) :: toPs (r.map .str) = _
      rw [ih]; rfl
  show PyData.tuple (toPs (ks.map .str)) = _
  rw [this]
theorem alike_strs : ∀ xs ys : List Str, PySem.W.alikeAll (xs.map .str) (ys.map .str) = true
  | [], _ => by simp [PySem.W.alikeAll]
  | _ :: _, [] => by simp [PySem.W.alikeAll]
  | x :: xs, y :: ys => by
    show PySem.W.alikeAll (.str x :: xs.map .str) (.str y :: ys.map .str) = true
    rw [PySem.W.alikeAll, alike_strs xs ys]
    simp [PySem.W.alike]
theorem okDs_strs {n : Nat} : ∀ {ks : List Str}, (∀ s ∈ ks, strOk s = true) → okDs n (ks.map .str) = true
  | [], _ => rfl
  | s :: r, h => by
    show (okD n (.str s) && okDs n (r.map .str)) = true
    rw [okDs_strs fun x hx => h x (List.mem_cons_of_mem _ hx), Bool.and_true]
    have := h s List.mem_cons_self
    cases n <;> exact this
theorem okD_way {n : Nat} {ks : List Str} (h : ∀ s ∈ ks, strOk s = true) : okD (n + 1) (wayT ks) = true := okDs_strs h
def rowT (r : List Str × Int) : D := .tup [wayT r.1, .int r.2]
theorem okD_row {n : Nat} {r : List Str × Int} (h : ∀ s ∈ r.1, strOk s = true) : okD (n + 2) (rowT r) = true := by
  show (okD (n + 1) (wayT r.1) && (okD (n + 1) (.int r.2) && true)) = true
  rw [okD_way h]; rfl
theorem toP_row (r : List Str × Int) : toP (rowT r) = .tuple [.tuple (r.1.map .str), .int r.2] := by
  show PyData.tuple [toP (wayT r.1), .int r.2] = _
  rw [toP_way]
theorem sort_ways {ws : List (List Str)} (h : ∀ w ∈ ws, wayOk w) : sortOk (ws.map wayT) := by
  refine ⟨fun d hd => ?_, fun d hd d' hd' => ?_, .inl fun d hd => ?_⟩
  · obtain ⟨w, hw, rfl⟩ := List.mem_map.mp hd
    exact okD_way (n := 63) (h w hw).2
  · rw [List.map_map] at hd hd'
    obtain ⟨w, hw, rfl⟩ := List.mem_map.mp hd
    obtain ⟨w', hw', rfl⟩ := List.mem_map.mp hd'
    show PySem.W.alike (toP (wayT w)) (toP (wayT w')) = true
    rw [toP_way, toP_way, PySem.W.alike]
    exact alike_strs _ _
  · rw [List.map_map] at hd
    obtain ⟨w, hw, rfl⟩ := List.mem_map.mp hd
    show ∃ x r, toP (wayT w) = .tuple (x :: r)
    rw [toP_way]
    cases w with
    | nil => exact absurd rfl (h [] hw).1
    | cons x r => exact ⟨_, _, rfl⟩
theorem sort_rows {rs : List (List Str × Int)} (h : ∀ w ∈ rs, wayOk w.1) : sortOk (rs.map rowT) := by
  refine ⟨fun d hd => ?_, fun d hd d' hd' => ?_, .inl fun d hd => ?_⟩
  · obtain ⟨w, hw, rfl⟩ := List.mem_map.mp hd
    exact okD_row (n := 62) (h w hw).2
  · rw [List.map_map] at hd hd'
    obtain ⟨w, hw, rfl⟩ := List.mem_map.mp hd
    obtain ⟨w', hw', rfl⟩ := List.mem_map.mp hd'
    show PySem.W.alike (toP (rowT w)) (toP (rowT w')) = true
    rw [toP_row, toP_row]
    simp [PySem.W.alike, PySem.W.alikeAll, alike_strs]
  · rw [List.map_map] at hd
    obtain ⟨w, hw, rfl⟩ := List.mem_map.mp hd
    show ∃ x r, toP (rowT w) = .tuple (x :: r)
    rw [toP_row]
    exact ⟨_, _, rfl⟩
theorem map_sort_ways (ws : List (List Str)) : (ws.map wayT).mergeSort leD = (ws.mergeSort leW).map wayT :=
  (List.map_mergeSort (r := leW) (s := leD) (f := wayT) (l := ws) fun _ _ _ _ => rfl).symm
def sk (es : List (List Str × Int)) : List (List Str) := (es.map (·.1)).mergeSort leW
def lk0 (es : List (List Str × Int)) (k : List Str) : Int := (lk es k).getD 0
def rows (es : List (List Str × Int)) : List (List Str × Int) := (sk es).map fun k => (k, lk0 es k)
def cb (k : List Str) (o : List (List Str × Int)) (s : Option (List (List Str × Int))) : Int × Int :=
  if k.head? = some ("keep" : Str) then (0, 0) else match s with
  | none => (lk0 o k, 0)
  | some t => (lk0 o k, lk0 t k)
abbrev mn (a b : Int) : Int := if b < a then b else a
def stepC (n : List (List Str × Int)) (b : Int × Int) (h : Int) (k : List Str) : Int :=
  if 0 < b.1 - lk0 n k then mn (b.1 - lk0 n k) (b.1 - b.2) + h * (b.1 - lk0 n k - mn (b.1 - lk0 n k) (b.1 - b.2)) else 0
def costP (o n : List (List Str × Int)) (s : Option (List (List Str × Int))) (h : Int) : Int := (sk o).foldl (fun c k => c + stepC n (cb k o s) h k) 0
def tb (o n : List (List Str × Int)) : List (List Str × Int) := (rows o).filterMap fun r => if r.1.head? ≠ some ("keep" : Str) ∧ lk0 n r.1 < r.2 then some (r.1, r.2 - lk0 n r.1) else none
def sentD (C : Addr) : Option (List (List Str × Int)) → D
  | none => .non
  | some s => planD C s
structure TabOk (es : List (List Str × Int)) : Prop where
  way : ∀ e ∈ es, wayOk e.1
  nd : (es.map (·.1)).Nodup
  len : es.length ≤ 100
theorem lk_mem {es : List (List Str × Int)} {k : List Str} (h : k ∈ es.map (·.1)) : ∃ v, lk es k = some v := by
  obtain ⟨e, he, rfl⟩ := List.mem_map.mp h
  unfold lk
  cases q : es.find? fun x => decide (x.1 = e.1) with
  | none =>
    have := List.find?_eq_none.mp q e he
    simp at this
  | some x => exact ⟨x.2, rfl⟩
theorem lk_at {es : List (List Str × Int)} (nd : (es.map (·.1)).Nodup) {e : List Str × Int} (h : e ∈ es) : lk es e.1 = some e.2 := by
  induction es with
  | nil => cases h
  | cons x r ih =>
    rw [List.map_cons, List.nodup_cons] at nd
    unfold lk
    rw [List.find?_cons]
    by_cases c : x.1 = e.1
    · rw [decide_eq_true c]
      rcases List.mem_cons.mp h with z | z
      · rw [z]; rfl
      · exact absurd (List.mem_map.mpr ⟨e, z, c.symm⟩) nd.1
    · rw [decide_eq_false c]
      rcases List.mem_cons.mp h with z | z
      · exact absurd (by rw [z]) c
      · exact ih nd.2 z
theorem sk_mem {es : List (List Str × Int)} {k : List Str} : k ∈ sk es ↔ k ∈ es.map (·.1) := by
  unfold sk
  exact (List.mergeSort_perm _ _).mem_iff
theorem sk_len (es : List (List Str × Int)) : (sk es).length = es.length := by
  unfold sk
  rw [List.length_mergeSort, List.length_map]
theorem keys_tab (es : List (List Str × Int)) : keysD (tabD es) = some ((es.map (·.1)).map wayT) := by
  show some ((tabE es).map fun e => D.tup (e.1.map keyD)) = _
  unfold tabE
  rw [List.map_map, List.map_map]
  congr 2
  funext e
  show D.tup ((e.1.map Sum.inr).map keyD) = wayT e.1
  rw [List.map_map]; rfl
theorem get_go {es : List (List Str × Int)} {k : List Str} {R : D → Prop} (h : k ∈ es.map (·.1)) (q : R (.int (lk0 es k))) : gDGet (tabD es) (wayT k) R := by
  obtain ⟨v, e⟩ := lk_mem h
  refine ⟨.int v, by rw [look_tab, e]; rfl, ?_⟩
  unfold lk0 at q
  rw [e] at q; exact q
theorem get2_go {es : List (List Str × Int)} {k : List Str} {R : D → Prop} (q : R (.int (lk0 es k))) : gDGet2 (tabD es) (wayT k) (.int 0) R := by
  refine ⟨_, look_tab es k, ?_⟩
  unfold lk0 at q
  cases e : lk es k with
  | none => rw [e] at q; exact q
  | some v => rw [e] at q; exact q
theorem fld_plan {C : Addr} {es : List (List Str × Int)} {R : D → Prop} (q : R (tabD es)) : gFld C "table" (planD C es) R := ⟨rfl, _, rfl, q⟩
theorem head_go {k : List Str} {R : D → Prop} (h : k ≠ []) (q : ∀ s, k.head? = some s → R (.str s)) : gIx (wayT k) (.int 0) R := by
  cases k with
  | nil => exact absurd rfl h
  | cons s r =>
    refine ⟨.str s, ?_, q s rfl⟩
    unfold atI ixN
    rw [if_pos (by decide), if_pos (by rw [List.map_cons, List.length_cons]; omega)]
    rfl
def hKeep (k : List Str) : Bool := decide (k.head? = some ("keep" : Str))
theorem sz : sizeLine = 16777216 := by decide
end GK

namespace GK
open PySem PySem.Spec PyProof.Rows L2
theorem leD_total : PySem.W.TotalLe leD := PySem.W.sortLe_total _ false _
theorem leW_total : PySem.W.TotalLe leW := ⟨fun a b c => leD_total.trans (wayT a) (wayT b) (wayT c), fun a b => leD_total.total (wayT a) (wayT b)⟩
theorem sort_filter {α : Type} {le : α → α → Bool} (h : PySem.W.TotalLe le) (l : List α) (p : α → Bool) : (l.mergeSort le).filter p = (l.filter p).mergeSort le :=
  PySem.W.sort_unique h ((PySem.W.sort_pairwise h l).sublist List.filter_sublist) fun c => by
    rw [List.filter_filter, List.filter_filter, List.filter_congr fun x _ => Bool.and_comm _ _, List.filter_congr (l := l) fun x _ => Bool.and_comm (PySem.W.sameRank le c x) (p x), ← List.filter_filter, ← List.filter_filter, PySem.W.sort_stable h l c]
theorem eqv_strs : ∀ a b : List Str, PyData.eqvAll (a.map .str) (b.map .str) = decide (a = b)
  | [], [] => by simp [PyData.eqvAll]
  | [], _ :: _ => by simp [PyData.eqvAll]
  | _ :: _, [] => by simp [PyData.eqvAll]
  | x :: a, y :: b => by
    rw [List.map_cons, List.map_cons, PyData.eqvAll, eqv_strs a b]
    have : PyData.eqv (.str x) (.str y) = (x == y) := by simp [PyData.eqv]
    rw [this]
    by_cases h : x = y
    · subst h; simp
    · have h' : (x == y) = false := by simpa using h
      rw [h']; simp [h]
theorem eqv_way (a b : List Str) : PyData.eqv (toP (wayT a)) (toP (wayT b)) = decide (a = b) := by
  rw [toP_way, toP_way, PyData.eqv]
  exact eqv_strs a b
theorem eqv_row (a b : List Str × Int) : eqvD (rowT a) (rowT b) = decide (a = b) := by
  unfold eqvD
  rw [toP_row, toP_row]
  simp only [PyData.eqv, PyData.eqvAll, eqv_strs, Bool.and_true]
  obtain ⟨a1, a2⟩ := a
  obtain ⟨b1, b2⟩ := b
  by_cases h : a1 = b1
  · by_cases h2 : a2 = b2
    · subst h; subst h2; simp
    · simp [h, h2]
  · simp [h]
theorem leR_way (g : List Str → Int) (a b : List Str) : leW a b = leD (rowT (a, g a)) (rowT (b, g b)) := by
  have e : ∀ x y : D, leD x y = !PySem.W.dataLt (toP y) (toP x) := fun x y => by
    show PySem.W.dataLe false toP x y = _
    rw [PySem.W.dataLe_eq]; rfl
  unfold leW
  rw [e, e]
  congr 1
  rw [toP_row, toP_row, toP_way, toP_way, PySem.W.dataLt_pair (by rw [PySem.W.alike]; exact alike_strs _ _) (by rw [PySem.W.alike])]
  have e2 : PyData.eqv (.tuple (b.map .str)) (.tuple (a.map .str)) = decide (b = a) := by rw [PyData.eqv]; exact eqv_strs b a
  rw [e2]
  by_cases h : b = a
  · subst h
    rw [decide_eq_true rfl, if_pos rfl, if_pos (by simp [PyData.eqv])]
    exact PyProof.Rows.lex_irrefl (O := PyProof.Rows.itemOrd) _
  · rw [decide_eq_false h, if_neg Bool.false_ne_true]
/-! sums -/
theorem foldl_add {α : Type} (f : α → Int) : ∀ (l : List α) (a : Int), l.foldl (fun c k => c + f k) a = a + (l.map f).sum
  | [], a => by simp
  | x :: r, a => by rw [List.foldl_cons, foldl_add f r, List.map_cons, List.sum_cons]; omega
theorem sum_perm {l m : List Int} (h : l.Perm m) : l.sum = m.sum := by
  induction h with
  | nil => rfl
  | cons x _ ih => rw [List.sum_cons, List.sum_cons, ih]
  | swap x y l => rw [List.sum_cons, List.sum_cons, List.sum_cons, List.sum_cons]; omega
  | trans _ _ h1 h2 => rw [h1, h2]
def pos (es : List (List Str × Int)) : List (List Str × Int) := es.filter fun e => decide (0 < e.2)
structure Tab0 (es : List (List Str × Int)) : Prop where
  ok : TabOk es
  nn : ∀ e ∈ es, 0 ≤ e.2
theorem Tab0.pos {es : List (List Str × Int)} (t : Tab0 es) : TabOk (pos es) :=
  ⟨fun e he => t.ok.way e (List.mem_filter.mp he).1, (List.filter_sublist.map _).nodup t.ok.nd, Nat.le_trans (List.length_filter_le _ _) t.ok.len⟩
theorem lk_none {es : List (List Str × Int)} {k : List Str} (h : k ∉ es.map (·.1)) : lk es k = none := by
  unfold lk
  rw [List.find?_eq_none.mpr fun e he z => h (List.mem_map.mpr ⟨e, he, of_decide_eq_true z⟩)]; rfl
theorem lk0_pos {es : List (List Str × Int)} (t : Tab0 es) (k : List Str) : lk0 (pos es) k = lk0 es k := by
  unfold lk0
  by_cases h : k ∈ es.map (·.1)
  · obtain ⟨e, he, rfl⟩ := List.mem_map.mp h
    rw [lk_at t.ok.nd he]
    by_cases hp : 0 < e.2
    · rw [lk_at t.pos.nd (List.mem_filter.mpr ⟨he, decide_eq_true hp⟩)]
    · have h0 : e.2 = 0 := by have := t.nn e he; omega
      rw [lk_none]
      · rw [h0]; rfl
      · intro z
        obtain ⟨e', he', ee⟩ := List.mem_map.mp z
        obtain ⟨h1, h2⟩ := List.mem_filter.mp he'
        have h2 := of_decide_eq_true h2
        have e1 := lk_at t.ok.nd he
        have e2 := lk_at t.ok.nd h1
        rw [ee, e1] at e2
        have := Option.some.inj e2
        omega
  · rw [lk_none h, lk_none]
    intro z
    obtain ⟨e', he', ee⟩ := List.mem_map.mp z
    exact h (List.mem_map.mpr ⟨e', (List.mem_filter.mp he').1, ee⟩)
def mx (a b : Int) : Int := if b > a then b else a
def dueStep (o p : List (List Str × Int)) (price : Int) (n : List (List Str × Int)) (k : List Str) : Int :=
  if k.head? ≠ some ("keep" : Str) ∧ lk0 n k < lk0 o k then lk0 o k - mx (lk0 n k) (lk0 p k) + price * mx 0 (lk0 p k - lk0 n k) else 0
def dueC (o p : List (List Str × Int)) (price : Int) (n : List (List Str × Int)) : Int := (o.map (·.1)).foldl (fun c k => c + dueStep o p price n k) 0
theorem lk0_nn {es : List (List Str × Int)} (t : Tab0 es) (k : List Str) : 0 ≤ lk0 es k := by
  unfold lk0
  by_cases h : k ∈ es.map (·.1)
  · obtain ⟨e, he, rfl⟩ := List.mem_map.mp h
    rw [lk_at t.ok.nd he]
    exact t.nn e he
  · rw [lk_none h]; exact Int.le_refl 0
theorem sum_pos {es : List (List Str × Int)} (f : List Str → Int) (h : ∀ e ∈ es, ¬ 0 < e.2 → f e.1 = 0) : (((pos es).map (·.1)).map f).sum = ((es.map (·.1)).map f).sum := by
  induction es with
  | nil => rfl
  | cons e r ih =>
    have ih := ih fun x hx => h x (List.mem_cons_of_mem _ hx)
    unfold pos at ih ⊢
    by_cases c : 0 < e.2
    · rw [List.filter_cons_of_pos (by simpa using c)]
      simp only [List.map_cons, List.sum_cons] at ih ⊢
      rw [ih]
    · rw [List.filter_cons_of_neg (by simpa using c)]
      simp only [List.map_cons, List.sum_cons] at ih ⊢
      rw [ih, h e List.mem_cons_self c]; omega
/-- what a change costs: the program's sum is the law's -/
theorem cost_due {o n : List (List Str × Int)} {s : Option (List (List Str × Int))} {p : List (List Str × Int)} {h : Int} (to : Tab0 o) (tn : Tab0 n) (hs : (s = none ∧ p = []) ∨ (Tab0 p ∧ s = some (pos p))) : costP (pos o) (pos n) s h = dueC o p h n := by
  unfold costP dueC
  rw [foldl_add (fun k => stepC (pos n) (cb k (pos o) s) h k), foldl_add (fun k => dueStep o p h n k)]
  congr 1
  have e1 : ∀ k, stepC (pos n) (cb k (pos o) s) h k = dueStep o p h n k := fun k => by
    have hcb : cb k (pos o) s = if k.head? = some ("keep" : Str) then (0, 0) else (lk0 o k, lk0 p k) := by
      unfold cb
      rcases hs with ⟨rfl, rfl⟩ | ⟨tp, rfl⟩
      · dsimp only; rw [lk0_pos to]; rfl
      · dsimp only; rw [lk0_pos to, lk0_pos tp]
    unfold stepC dueStep
    rw [lk0_pos tn, hcb]
    have hn := lk0_nn tn k
    by_cases hk : k.head? = some ("keep" : Str)
    · rw [if_pos hk]
      dsimp only
      rw [if_neg (by omega), if_neg (fun z => z.1 hk)]
    · rw [if_neg hk]
      dsimp only
      by_cases hb : lk0 n k < lk0 o k
      · rw [if_pos (by omega), if_pos ⟨hk, hb⟩]
        have hp : 0 ≤ lk0 p k := by
          rcases hs with ⟨_, rfl⟩ | ⟨tp, _⟩
          · exact Int.le_refl 0
          · exact lk0_nn tp k
        unfold mx mn
        by_cases c : lk0 p k > lk0 n k
        · rw [if_pos (by omega), if_pos c, if_pos (by omega)]
          congr 2
          omega
        · rw [if_neg (by omega), if_neg c, if_neg (by omega)]
          have : lk0 o k - lk0 n k - (lk0 o k - lk0 n k) = 0 := by omega
          rw [this]
      · rw [if_neg (by omega), if_neg (fun z => hb z.2)]
  have e2 : (sk (pos o)).map (fun k => stepC (pos n) (cb k (pos o) s) h k) = (sk (pos o)).map (fun k => dueStep o p h n k) := List.map_congr_left fun k _ => e1 k
  have pm : ((sk (pos o)).map (fun k => dueStep o p h n k)).Perm (((pos o).map (·.1)).map fun k => dueStep o p h n k) := (List.mergeSort_perm _ _).map _
  rw [e2, sum_perm pm]
  exact sum_pos _ fun e he hz => by
    have h0 : lk0 o e.1 = 0 := by
      unfold lk0
      rw [lk_at to.ok.nd he]
      have := to.nn e he
      show e.2 = 0
      omega
    have hn := lk0_nn tn e.1
    unfold dueStep
    rw [if_neg (fun z => by have := z.2; omega)]
def wantP (o n : List (List Str × Int)) (k : List Str) : Bool := decide (k.head? ≠ some ("keep" : Str) ∧ lk0 n k < lk0 o k)
def dueB (o n : List (List Str × Int)) : List (List Str × Int) := (((o.map (·.1)).filter (wantP o n)).map fun k => (k, lk0 o k - lk0 n k)).mergeSort fun a b => leD (rowT a) (rowT b)
theorem back_due {o n : List (List Str × Int)} (to : Tab0 o) (tn : Tab0 n) : tb (pos o) (pos n) = dueB o n := by
  have e1 : tb (pos o) (pos n) = ((sk (pos o)).filter (wantP o n)).map fun k => (k, lk0 o k - lk0 n k) := by
    unfold tb rows
    rw [List.filterMap_map]
    have : ∀ l : List (List Str), l.filterMap ((fun r : List Str × Int => if r.1.head? ≠ some ("keep" : Str) ∧ lk0 (pos n) r.1 < r.2 then some (r.1, r.2 - lk0 (pos n) r.1) else none) ∘ fun k => (k, lk0 (pos o) k)) = (l.filter (wantP o n)).map fun k => (k, lk0 o k - lk0 n k) := fun l => by
      induction l with
      | nil => rfl
      | cons k r ih =>
        rw [List.filterMap_cons, ih]
        dsimp only [Function.comp_apply]
        rw [lk0_pos tn, lk0_pos to]
        by_cases c : k.head? ≠ some ("keep" : Str) ∧ lk0 n k < lk0 o k
        · rw [if_pos c, List.filter_cons_of_pos (show wantP o n k = true from decide_eq_true c)]; rfl
        · rw [if_neg c, List.filter_cons_of_neg (by unfold wantP; rw [decide_eq_false c]; exact Bool.false_ne_true)]
    exact this _
  have e2 : ((pos o).map (·.1)).filter (wantP o n) = (o.map (·.1)).filter (wantP o n) := by
    unfold pos
    have : ∀ l : List (List Str × Int), (∀ e ∈ l, ¬ 0 < e.2 → wantP o n e.1 = false) → ((l.filter fun e => decide (0 < e.2)).map (·.1)).filter (wantP o n) = (l.map (·.1)).filter (wantP o n) := fun l hl => by
      induction l with
      | nil => rfl
      | cons e r ih =>
        have ih := ih fun x hx => hl x (List.mem_cons_of_mem _ hx)
        by_cases c : 0 < e.2
        · rw [List.filter_cons_of_pos (by simpa using c), List.map_cons, List.map_cons, List.filter_cons, List.filter_cons, ih]
        · rw [List.filter_cons_of_neg (by simpa using c), ih, List.map_cons, List.filter_cons_of_neg (by rw [hl e List.mem_cons_self c]; exact Bool.false_ne_true)]
    exact this o fun e he hz => by
      unfold wantP
      apply decide_eq_false
      intro z
      have h0 : lk0 o e.1 = e.2 := by unfold lk0; rw [lk_at to.ok.nd he]; rfl
      have := lk0_nn tn e.1
      have := z.2
      omega
  rw [e1]
  unfold sk dueB
  rw [sort_filter leW_total, e2]
  exact List.map_mergeSort fun a _ b _ => leR_way (fun k => lk0 o k - lk0 n k) a b
/-- the rows of a plan: those of the law's table, sorted -/
theorem rows_stay {t : List (List Str × Int)} (tt : Tab0 t) : rows (pos t) = (pos t).mergeSort fun a b => leD (rowT a) (rowT b) := by
  unfold rows sk
  have e1 : pos t = ((pos t).map (·.1)).map fun k => (k, lk0 t k) := by
    rw [List.map_map]
    have : ∀ l : List (List Str × Int), (∀ e ∈ l, e ∈ t) → l = l.map ((fun k => (k, lk0 t k)) ∘ fun e => e.1) := fun l hl => by
      induction l with
      | nil => rfl
      | cons e r ih =>
        rw [List.map_cons, ← ih fun x hx => hl x (List.mem_cons_of_mem _ hx)]
        show e :: r = (e.1, lk0 t e.1) :: r
        unfold lk0
        rw [lk_at tt.ok.nd (hl e List.mem_cons_self)]; rfl
    exact this _ fun e he => (List.mem_filter.mp he).1
  have e2 : (fun k : List Str => (k, lk0 (pos t) k)) = fun k => (k, lk0 t k) := by funext k; rw [lk0_pos tt]
  rw [e2]
  conv => rhs; rw [e1]
  exact List.map_mergeSort fun a _ b _ => leR_way (fun k => lk0 t k) a b
/-! tables changed -/
def putL (es : List (List Str × Int)) (k : List Str) (v : Int) : List (List Str × Int) :=
  if (es.any fun e => decide (e.1 = k)) = true then es.map (fun e => if e.1 = k then (e.1, v) else e) else es ++ [(k, v)]
theorem put_tab (es : List (List Str × Int)) (k : List Str) (v : Int) : putD (tabE es) (k.map Sum.inr) (.int v) = tabE (putL es k v) := by
  have e1 : ((tabE es).any fun e => decide (e.1 = k.map (Sum.inr : Str → Key))) = es.any fun e => decide (e.1 = k) := by
    unfold tabE
    rw [List.any_map]
    congr 1
    funext e
    show decide (e.1.map (Sum.inr : Str → Key) = k.map Sum.inr) = decide (e.1 = k)
    by_cases h : e.1 = k
    · rw [h, decide_eq_true rfl, decide_eq_true rfl]
    · rw [decide_eq_false h, decide_eq_false fun z => h (inr_inj z)]
  unfold putD putL
  rw [e1]
  split
  · unfold tabE
    rw [List.map_map, List.map_map]
    apply List.map_congr_left
    intro e _
    show (if e.1.map (Sum.inr : Str → Key) = k.map Sum.inr then (e.1.map (Sum.inr : Str → Key), D.int v) else (e.1.map Sum.inr, .int e.2)) = ((if e.1 = k then (e.1, v) else e).1.map (Sum.inr : Str → Key), .int (if e.1 = k then (e.1, v) else e).2)
    by_cases h : e.1 = k
    · rw [if_pos h, if_pos (by rw [h])]
    · rw [if_neg h, if_neg fun z => h (inr_inj z)]
  · unfold tabE
    rw [List.map_append]; rfl
theorem putL_keys (es : List (List Str × Int)) (k : List Str) (v : Int) : (putL es k v).map (·.1) = if k ∈ es.map (·.1) then es.map (·.1) else es.map (·.1) ++ [k] := by
  unfold putL
  by_cases h : k ∈ es.map (·.1)
  · obtain ⟨e, he, rfl⟩ := List.mem_map.mp h
    rw [if_pos h, if_pos (List.any_eq_true.mpr ⟨e, he, decide_eq_true rfl⟩), List.map_map]
    apply List.map_congr_left
    intro x _
    show (if x.1 = e.1 then (x.1, v) else x).1 = x.1
    split <;> rfl
  · rw [if_neg h, if_neg, List.map_append]
    · rfl
    · intro z
      obtain ⟨e, he, q⟩ := List.any_eq_true.mp z
      exact h (List.mem_map.mpr ⟨e, he, of_decide_eq_true q⟩)
theorem putL_new {es : List (List Str × Int)} {k : List Str} {v : Int} (h : k ∉ es.map (·.1)) : putL es k v = es ++ [(k, v)] := by
  unfold putL
  rw [if_neg]
  intro z
  obtain ⟨e, he, q⟩ := List.any_eq_true.mp z
  exact h (List.mem_map.mpr ⟨e, he, of_decide_eq_true q⟩)
theorem putL_nn {es : List (List Str × Int)} {k : List Str} {v : Int} (h : ∀ e ∈ es, 0 ≤ e.2) (hv : 0 ≤ v) : ∀ e ∈ putL es k v, 0 ≤ e.2 := fun e he => by
  unfold putL at he
  split at he
  · obtain ⟨x, hx, rfl⟩ := List.mem_map.mp he
    split
    · exact hv
    · exact h x hx
  · rcases List.mem_append.mp he with z | z
    · exact h e z
    · rw [List.mem_singleton.mp z]; exact hv
theorem putDD_tab {es : List (List Str × Int)} {k : List Str} {v : Int} (h : es.length < sizeLine) : putDD (tabD es) (wayT k) (.int v) = some (tabD (putL es k v)) := by
  have hl : (tabE es).length < sizeLine := by unfold tabE; rw [List.length_map]; exact h
  show (match keyT (wayT k) with
    | some k => if (tabE es).length < sizeLine then some (D.dT (putD (tabE es) k (.int v))) else none
    | none => none) = _
  rw [keyT_way]
  dsimp only
  rw [if_pos hl, put_tab]; rfl
theorem flat_plan {C : Addr} {es : List (List Str × Int)} : flatN 2 (planD C es) = true := by
  show (flatN 1 (tabD es) && true) = true
  rw [Bool.and_true]
  show ((tabE es).all fun e => flatN 0 e.2) = true
  rw [List.all_eq_true]
  intro e he
  obtain ⟨x, _, rfl⟩ := List.mem_map.mp he
  rfl
end GK

namespace GK
open PySem PySem.Spec PyProof.Rows L2
theorem draw_go {B : List Addr} {b : Addr} {size : Int} {R : D → Prop} (hb : B.head? = some b) (h0 : 0 < size) (h1 : size < 2 ^ 64) (h : ∀ r : Int, 0 ≤ r → r < size → R (.int r)) : wDraw B [.raw (.ref b), .int size] R := by
  refine ⟨b, size, hb, rfl, h0, ?_, h⟩
  have : size.natAbs.log2 < 64 := (Nat.log2_lt (by omega)).mpr (by omega)
  omega
def abc : Str := "abcdefghijklmnopqrstuvwxyz"
theorem abc_len : abc.cps.toList.length = 26 := by decide +kernel
theorem abc_ok : abc.cps.toList.all (fun c => decide (c < 0x110000)) = true := by decide +kernel
theorem abc_sz : abc.length ≤ sizeLine := by decide +kernel
theorem strOk_one {c : Nat} (h : c < 0x110000) : strOk ⟨#[c]⟩ = true := by
  unfold strOk
  simp [h]
theorem strOk_iff {z : Str} : strOk z = true ↔ ∀ c ∈ z.cps.toList, c < 0x110000 := by
  unfold strOk
  rw [Array.all_eq_true']
  constructor
  · intro h c hc
    simpa using h c (by simpa using hc)
  · intro h c hc
    simpa using h c (by simpa using hc)
theorem len_cps (z : Str) : z.length = z.cps.toList.length := by
  unfold Str.length
  simp
theorem atI_nat {α : Type} {xs : List α} {i : Int} (h0 : 0 ≤ i) (h1 : i < xs.length) : ∃ c, atI xs i = some c ∧ c ∈ xs := by
  have hn : i.toNat < xs.length := by omega
  refine ⟨xs[i.toNat], ?_, List.getElem_mem _⟩
  unfold atI ixN
  rw [if_pos h0, if_pos h1]
  show xs[i.toNat]? = _
  exact List.getElem?_eq_getElem hn
theorem letter_go {i : Int} {R : D → Prop} (h0 : 0 ≤ i) (h1 : i < 26) (h : ∀ z : Str, strOk z = true → z.length = 1 → R (.str z)) : gIxS (.str abc) (.int i) R := by
  obtain ⟨c, e, hc⟩ := atI_nat (xs := abc.cps.toList) h0 (by rw [abc_len]; exact h1)
  refine ⟨abc_sz, c, e, h _ (strOk_one ?_) rfl⟩
  exact of_decide_eq_true (List.all_eq_true.mp abc_ok c hc)
theorem sign_go {z : Str} {i : Int} {R : D → Prop} (hz : z.length ≤ 8) (h0 : 0 ≤ i) (h1 : i < z.length) (h : ∀ y : Str, R (.str y)) : gIxS (.str z) (.int i) R := by
  obtain ⟨c, e, hc⟩ := atI_nat (xs := z.cps.toList) h0 (by rw [← len_cps]; exact h1)
  exact ⟨by rw [sz]; omega, c, e, h _⟩
theorem strOk_rep {z : Str} {n : Int} (h : strOk z = true) : strOk (repS z n) = true := by
  rw [strOk_iff] at h ⊢
  intro c hc
  unfold repS at hc
  have hc : c ∈ (List.replicate n.toNat z.cps.toList).flatten := by simpa using hc
  obtain ⟨l, hl, hcl⟩ := List.mem_flatten.mp hc
  rw [(List.mem_replicate.mp hl).2] at hcl
  exact h c hcl
theorem strOk_cut {z : Str} {lo hi : Option Int} (h : strOk z = true) : strOk (cutS z lo hi) = true := by
  rw [strOk_iff] at h ⊢
  intro c hc
  unfold cutS at hc
  have hc : c ∈ (z.cps.toList.drop (HT.sIx z.length 0 lo)).take (HT.sIx z.length z.length hi - HT.sIx z.length 0 lo) := by simpa using hc
  exact h c (List.mem_of_mem_drop (List.mem_of_mem_take hc))
theorem strOk_cat {a b : Str} (h1 : strOk a = true) (h2 : strOk b = true) : strOk (a ++ b) = true := by
  rw [strOk_iff] at h1 h2 ⊢
  intro c hc
  have hc : c ∈ (a.cps ++ b.cps).toList := hc
  rw [Array.toList_append] at hc
  exact (List.mem_append.mp hc).elim (h1 c) (h2 c)
theorem len_cat (a b : Str) : (a ++ b).length = a.length + b.length := by
  show (a.cps ++ b.cps).size = a.cps.size + b.cps.size
  rw [Array.size_append]
theorem cut_len (z : Str) (lo hi : Option Int) : (cutS z lo hi).length = min (HT.sIx z.length z.length hi - HT.sIx z.length 0 lo) (z.length - HT.sIx z.length 0 lo) := by
  rw [len_cps]
  unfold cutS
  simp [List.length_take, List.length_drop]
  rfl
theorem cut_to {z : Str} {a : Int} (h0 : 0 ≤ a) (h1 : a ≤ z.length) : (cutS z none (some a)).length = a.toNat := by
  rw [cut_len]
  have e : a = ((a.toNat : Nat) : Int) := by omega
  rw [e, HT.sIx_nat, HT.sIx_none]
  omega
theorem cut_from {z : Str} {a : Int} (h0 : 0 ≤ a) (h1 : a ≤ z.length) : (cutS z (some a) none).length = z.length - a.toNat := by
  rw [cut_len]
  have e : a = ((a.toNat : Nat) : Int) := by omega
  rw [e, HT.sIx_nat, HT.sIx_none]
  omega
/-- a word with one sign put anew -/
theorem anew {w z : Str} {a : Int} {n : Nat} (hw : strOk w = true) (hz : strOk z = true) (hn : w.length = n) (h1 : z.length = 1) (h0 : 0 ≤ a) (ha : a < n) : strOk (cutS w none (some a) ++ z ++ cutS w (some (a + 1)) none) = true ∧ (cutS w none (some a) ++ z ++ cutS w (some (a + 1)) none).length = n := by
  refine ⟨strOk_cat (strOk_cat (strOk_cut hw) hz) (strOk_cut hw), ?_⟩
  rw [len_cat, len_cat, cut_to h0 (by omega), h1, cut_from (by omega) (by omega), hn]
  omega
theorem all_str (l : List Str) : (l.map D.str).all flD = true := by
  rw [List.all_eq_true]
  intro d hd
  obtain ⟨s, _, rfl⟩ := List.mem_map.mp hd
  rfl
theorem iOf_int {R : Option Int → Prop} {i : Int} : iOf R (.int i) = R (some i) := rfl
theorem gSlS_str {z : Str} {lo hi : Option Int} {R : D → Prop} : gSlS (.str z) lo hi R = (z.length ≤ sizeLine ∧ R (.str (cutS z lo hi))) := rfl
theorem gCatS_str {a b : Str} {R : D → Prop} : gCatS (.str a) (.str b) R = (a.length + b.length ≤ sizeLine ∧ R (.str (a ++ b))) := rfl
theorem gRepS_str {a : Str} {n : Int} {R : D → Prop} : gRepS (.str a) (.int n) R = (-(2 ^ 63) ≤ n ∧ n < 2 ^ 63 ∧ n.toNat * a.length ≤ sizeLine ∧ R (.str (repS a n))) := rfl
theorem gFind_str {a b : Str} {R : D → Prop} : gFind (.str a) [.str b] R = R (.int (Txt.find a b)) := rfl
theorem erase_map {α β : Type} (f : α → β) : ∀ (l : List α) (n : Nat), (l.map f).eraseIdx n = (l.eraseIdx n).map f
  | [], _ => rfl
  | _ :: _, 0 => rfl
  | x :: r, n + 1 => congrArg (List.cons (f x)) (erase_map f r n)
theorem pick_ix {j : Int} {n : Nat} (h0 : 0 ≤ j) (h1 : j < n) : ixN n j = some j.toNat := by
  unfold ixN
  rw [if_pos h0, if_pos h1]
theorem dueB_mem {o n : List (List Str × Int)} {r : List Str × Int} (h : r ∈ dueB o n) : r.1 ∈ o.map (·.1) := by
  have h := (List.mergeSort_perm _ _).mem_iff.mp h
  obtain ⟨k, hk, rfl⟩ := List.mem_map.mp h
  exact (List.mem_filter.mp hk).1
theorem dueB_ok {o n : List (List Str × Int)} (t : Tab0 o) : ∀ r ∈ dueB o n, wayOk r.1 := fun r hr => by
  obtain ⟨e, he, q⟩ := List.mem_map.mp (dueB_mem hr)
  rw [← q]; exact t.ok.way e he
theorem dueB_len {o n : List (List Str × Int)} (t : Tab0 o) : (dueB o n).length ≤ 100 := by
  unfold dueB
  rw [List.length_mergeSort, List.length_map]
  have h1 := List.length_filter_le (wantP o n) (o.map (·.1))
  rw [List.length_map] at h1
  have := t.ok.len
  omega
theorem gIx_last {ds : List D} {x : D} {R : D → Prop} (q : R x) : gIx (.lst (ds ++ [x])) (.int (-1)) R := by
  refine ⟨x, ?_, q⟩
  unfold atI ixN
  rw [if_neg (by decide), if_pos (by rw [List.length_append, List.length_singleton]; omega)]
  show (ds ++ [x])[(-1 + ((ds ++ [x]).length : Int)).toNat]? = some x
  have e : (-1 + ((ds ++ [x]).length : Int)).toNat = ds.length := by rw [List.length_append, List.length_singleton]; omega
  rw [e]
  simp
theorem ix_first {ds : List D} {x : D} : ixN (ds ++ [x]).length 0 = some 0 := by
  unfold ixN
  rw [if_pos (by decide), if_pos (by rw [List.length_append, List.length_singleton]; omega)]
  rfl
theorem dueB_nil {n : List (List Str × Int)} : dueB [] n = [] := by simp [dueB]
end GK

namespace GK
open PySem PySem.Spec PyProof.Rows L2
def w_law_is : BSpec := fun _ ds R => ∃ a b, ds = [.int a, .int b] ∧ R (.bl (decide (a = b)))
def w_Plan_cents_of (C : Addr) : BSpec := fun _ ds R => ∃ es k, ds = [planD C es, wayT k] ∧ R (.int (lk0 es k))
def w_Plan_rows (C : Addr) : BSpec := fun _ ds R => ∃ es, ds = [planD C es] ∧ TabOk es ∧ R (.lst ((rows es).map rowT))
def w_cents_before (C : Addr) : BSpec := fun _ ds R => ∃ k o s, ds = [wayT k, planD C o, sentD C s] ∧ k ≠ [] ∧ R (.tup [.int (cb k o s).1, .int (cb k o s).2])
def w_change_cost (C : Addr) : BSpec := fun _ ds R => ∃ o n s h, ds = [planD C o, planD C n, sentD C s, .int h] ∧ TabOk o ∧ -(2 ^ 64) < h ∧ h < 2 ^ 64 ∧ R (.int (costP o n s h))
def w_taken_back (C : Addr) : BSpec := fun _ ds R => ∃ o n, ds = [planD C o, planD C n] ∧ TabOk o ∧ R (.lst ((tb o n).map rowT))
def w_law_due_cost : BSpec := fun _ ds R => ∃ o p price n, ds = [tabD o, tabD p, .int price, tabD n] ∧ TabOk o ∧ -(2 ^ 64) < price ∧ price < 2 ^ 64 ∧ R (.int (dueC o p price n))
def w_law_due_back : BSpec := fun _ ds R => ∃ o n, ds = [tabD o, tabD n] ∧ TabOk o ∧ R (.lst ((dueB o n).map rowT))
def w_Plan_init (C : Addr) : FSpecM := fun s ds R => ∃ t, s = .obj C [] ∧ ((ds = [.non] ∧ t = []) ∨ ds = [tabD t]) ∧ TabOk t ∧ R .non (planD C (pos t))
def w_law_plan (C : Addr) : BSpec := fun _ ds R => ∃ t, ds = [tabD t] ∧ TabOk t ∧ R (planD C (pos t))
def w_law_cost (C : Addr) : BSpec := fun _ ds R => ∃ o n s kind price, ds = [planD C o, planD C n, sentD C s, .int kind, .int price] ∧ TabOk o ∧ 0 ≤ price ∧ price < 2 ^ 62 ∧ R (.int (costP o n (if kind = 0 then none else s) (if price = 0 then 5 else price)))
def w_law_same : BSpec := fun _ ds R => ∃ a b : List (List Str × Int), ds = [.lst (a.map rowT), .lst (b.map rowT)] ∧ (∀ r ∈ a, wayOk r.1) ∧ (∀ r ∈ b, wayOk r.1) ∧ b.length ≤ 100 ∧ R (.bl (decide (a = b)))
def w_law_stays (C : Addr) : BSpec := fun _ ds R => ∃ t, ds = [planD C (pos t), tabD t] ∧ Tab0 t ∧ R (.bl true)

def w_law_name : BSpec := fun B ds R => ∃ (b : Addr) (taken : List Str), B.head? = some b ∧ ds = [.raw (.ref b), .lst (taken.map .str)] ∧ ∀ s : Str, strOk s = true → R (.str s)
def w_law_names : BSpec := fun B ds R => ∃ (b : Addr) (n : Int), B.head? = some b ∧ ds = [.raw (.ref b), .int n] ∧ 0 < n ∧ n ≤ 8 ∧ ∀ ns : List Str, ns.length = n.toNat → (∀ s ∈ ns, strOk s = true) → R (.lst (ns.map .str))
def w_law_cents : BSpec := fun B ds R => ∃ (b : Addr) (ws : List (List Str)), B.head? = some b ∧ ds = [.raw (.ref b), .lst (ws.map wayT)] ∧ ws.length ≤ 13 ∧ (∀ w ∈ ws, wayOk w) ∧ ∀ t0 t1 t2, Tab0 t0 → Tab0 t1 → Tab0 t2 → R (.lst [tabD t0, tabD t1, tabD t2])
def w_law_chosen : BSpec := fun B ds R => ∃ b : Addr, B.head? = some b ∧ ds = [.raw (.ref b)] ∧ ∀ ws : List (List Str), ws.length ≤ 13 → (∀ w ∈ ws, wayOk w) → R (.lst (ws.map wayT))
section
variable {P : Program} {w : World} {K : PySem.W.Frag} {mg : Str → Option Value} {base : Heap}
abbrev s_law_is : Stmt := topS 19
theorem sc_law_is : FnScope ["told", "due"] ["told", "due"] (defScope s_law_is) := ⟨rfl, rfl, rfl, by decide +kernel, rfl, by decide +kernel, by decide +kernel⟩
theorem ok_law_is {f : Addr} {fd : FuncData} (F : Fun K "_law_is" "_law_is" s_law_is f fd) (T : Bi mg)  : FnOk P w K mg base CX0 1 f fd ["told", "due"] (spD K (.own 0) w_law_is) := by
  refine Fun_okD F sc_law_is (fun _ _ _ h => by obtain ⟨_, _, e, _⟩ := h; rw [e]; rfl) fun B cdv A outer s H E hr => ⟨_, (ds_one (ds_retM (dm_of (de_and (m := .own 0) (de_isi (m := .rd) T.isinstance_ (de_v 0) (de_ty (m := .rd) (T := "int") rfl T.int_ (by decide +kernel))) (de_and (m := .own 0) (de_not (m := .rd) (de_isi (m := .rd) T.isinstance_ (de_v 0) (de_ty (m := .rd) (T := "bool") rfl T.bool_ (by decide +kernel)))) (de_one (de_eq (m := .own 0) (de_v 0) (de_v 1)))))))), fun ds R ⟨a, b, e, hR⟩ => ?_⟩
  subst e
  try simp only [ownLst, ownObj, mTake, mOf, fAndV, fOrV, fArgs, fCons, fNil, fVar_0, fVar_s, fUn, fBin, fBool, startE, envOf, slot, gSeq, frzE, gComp, gCompD, wipe_nil, wipe_cons, List.map_cons, List.map_nil, List.cons_append, List.nil_append, List.append_nil, true_and, and_true, List.set_cons_zero, List.set_cons_succ, List.length_cons, List.length_nil, List.replicate_succ, List.replicate_zero, Nat.reduceSub, Nat.reduceAdd, Nat.reduceLT, DEnds.fn, bOf_bl, eq_self, reduceIte, Bool.false_eq_true, gNotV_bl, Bool.not_true, Bool.not_false, g2I_int, g2I0_int, g1I_int, gLen_lst, gLen_tup, gInt_int, gMax2_int, gMin2_int, gIsN_non, gIsN_obj, gIsN_dT, gIsN_dK, gIsN_int, xsOf_lst, tsOf_tup, gIx_t0, gIx_t1, gIx_l0, gIx_l1, gIx_l2, iOf_int, gSlS_str, gCatS_str, gRepS_str, gFind_str, gEqA_int, gEqA_str, gEqA_bl, gTup, gLst, Option.isSome_some, Bool.false_xor, Bool.true_xor, gFor]
  refine gIsi_go (a := "int") (b := true) rfl rfl (fun _ _ e => by cases e) ?_
  try simp only [ownLst, ownObj, mTake, mOf, fAndV, fOrV, fArgs, fCons, fNil, fVar_0, fVar_s, fUn, fBin, fBool, startE, envOf, slot, gSeq, frzE, gComp, gCompD, wipe_nil, wipe_cons, List.map_cons, List.map_nil, List.cons_append, List.nil_append, List.append_nil, true_and, and_true, List.set_cons_zero, List.set_cons_succ, List.length_cons, List.length_nil, List.replicate_succ, List.replicate_zero, Nat.reduceSub, Nat.reduceAdd, Nat.reduceLT, DEnds.fn, bOf_bl, eq_self, reduceIte, Bool.false_eq_true, gNotV_bl, Bool.not_true, Bool.not_false, g2I_int, g2I0_int, g1I_int, gLen_lst, gLen_tup, gInt_int, gMax2_int, gMin2_int, gIsN_non, gIsN_obj, gIsN_dT, gIsN_dK, gIsN_int, xsOf_lst, tsOf_tup, gIx_t0, gIx_t1, gIx_l0, gIx_l1, gIx_l2, iOf_int, gSlS_str, gCatS_str, gRepS_str, gFind_str, gEqA_int, gEqA_str, gEqA_bl, gTup, gLst, Option.isSome_some, Bool.false_xor, Bool.true_xor, gFor]
  refine gIsi_go (a := "int") (b := false) rfl rfl (fun _ _ e => by cases e) ?_
  try simp only [ownLst, ownObj, mTake, mOf, fAndV, fOrV, fArgs, fCons, fNil, fVar_0, fVar_s, fUn, fBin, fBool, startE, envOf, slot, gSeq, frzE, gComp, gCompD, wipe_nil, wipe_cons, List.map_cons, List.map_nil, List.cons_append, List.nil_append, List.append_nil, true_and, and_true, List.set_cons_zero, List.set_cons_succ, List.length_cons, List.length_nil, List.replicate_succ, List.replicate_zero, Nat.reduceSub, Nat.reduceAdd, Nat.reduceLT, DEnds.fn, bOf_bl, eq_self, reduceIte, Bool.false_eq_true, gNotV_bl, Bool.not_true, Bool.not_false, g2I_int, g2I0_int, g1I_int, gLen_lst, gLen_tup, gInt_int, gMax2_int, gMin2_int, gIsN_non, gIsN_obj, gIsN_dT, gIsN_dK, gIsN_int, xsOf_lst, tsOf_tup, gIx_t0, gIx_t1, gIx_l0, gIx_l1, gIx_l2, iOf_int, gSlS_str, gCatS_str, gRepS_str, gFind_str, gEqA_int, gEqA_str, gEqA_bl, gTup, gLst, Option.isSome_some, Bool.false_xor, Bool.true_xor, gFor]
  exact hR
abbrev s_Plan_cents_of : Stmt := inClass (topS 3) 1
theorem sc_Plan_cents_of : FnScope ["self", "way"] ["self", "way"] (defScope s_Plan_cents_of) := ⟨rfl, rfl, rfl, by decide +kernel, rfl, by decide +kernel, by decide +kernel⟩
theorem ok_Plan_cents_of {f : Addr} {fd : FuncData} {C_Plan : Addr} (F : Fun K "cents_of" "Plan.cents_of" s_Plan_cents_of f fd) (T : Bi mg) (K_Plan : KPlan K C_Plan) : FnOk P w K mg base CX0 1 f fd ["self", "way"] (spD K (.own 0) (w_Plan_cents_of C_Plan)) := by
  refine Fun_okD F sc_Plan_cents_of (fun _ _ _ h => by obtain ⟨_, _, e, _⟩ := h; rw [e]; rfl) fun B cdv A outer s H E hr => ⟨_, (ds_one (ds_retM (dm_of (de_dget2 (hr.u 1) (de_fld (de_v 0) rfl K_Plan.cl K_Plan.n_table) (de_rd (de_v 1)) (de_int (m := .own 0)))))), fun ds R ⟨es, k, e, hR⟩ => ?_⟩
  subst e
  try simp only [ownLst, ownObj, mTake, mOf, fAndV, fOrV, fArgs, fCons, fNil, fVar_0, fVar_s, fUn, fBin, fBool, startE, envOf, slot, gSeq, frzE, gComp, gCompD, wipe_nil, wipe_cons, List.map_cons, List.map_nil, List.cons_append, List.nil_append, List.append_nil, true_and, and_true, List.set_cons_zero, List.set_cons_succ, List.length_cons, List.length_nil, List.replicate_succ, List.replicate_zero, Nat.reduceSub, Nat.reduceAdd, Nat.reduceLT, DEnds.fn, bOf_bl, eq_self, reduceIte, Bool.false_eq_true, gNotV_bl, Bool.not_true, Bool.not_false, g2I_int, g2I0_int, g1I_int, gLen_lst, gLen_tup, gInt_int, gMax2_int, gMin2_int, gIsN_non, gIsN_obj, gIsN_dT, gIsN_dK, gIsN_int, xsOf_lst, tsOf_tup, gIx_t0, gIx_t1, gIx_l0, gIx_l1, gIx_l2, iOf_int, gSlS_str, gCatS_str, gRepS_str, gFind_str, gEqA_int, gEqA_str, gEqA_bl, gTup, gLst, Option.isSome_some, Bool.false_xor, Bool.true_xor, gFor]
  refine fld_plan ?_
  exact ⟨trivial, get2_go hR⟩
abbrev s_Plan_rows : Stmt := inClass (topS 3) 2
theorem sc_Plan_rows : FnScope ["self", "way"] ["self"] (defScope s_Plan_rows) := ⟨rfl, rfl, rfl, by decide +kernel, rfl, by decide +kernel, by decide +kernel⟩
theorem ok_Plan_rows {f : Addr} {fd : FuncData} {C_Plan : Addr} (F : Fun K "rows" "Plan.rows" s_Plan_rows f fd) (T : Bi mg) (K_Plan : KPlan K C_Plan) : FnOk P w K mg base CX0 1 f fd ["self"] (spD K (.own 0) (w_Plan_rows C_Plan)) := by
  refine Fun_okD F sc_Plan_rows (fun _ _ _ h => by obtain ⟨_, e, _, _⟩ := h; rw [e]; rfl) fun B cdv A outer s H E hr => ⟨_, (ds_one (ds_retM (dm_of (de_frz (de_lc (own := [("way", 1)]) 0 rfl sc_Plan_rows.nd (di_list (de_frz (de_sorted (hr.u 67) T.sorted_ (de_frz (de_listK rfl T.list_ (de_fld (de_v 0) rfl K_Plan.cl K_Plan.n_table)))))) (blk_of ["self", "way"] (defScope s_Plan_rows) rfl (by decide +kernel) (by decide +kernel) (by decide +kernel) (by decide +kernel)) (dgc_name 1 sc_Plan_rows.nd rfl) (hol_cons rfl (fun _ _ => rfl) hol_nil) (fun _ _ _ _ _ => dts_nil) (fun _ _ _ _ _ => (de_tup (da_cons (m := .own 0) (de_v 1) (da_cons (m := .own 0) (de_dget (hr.u 1) (de_fld (de_v 0) rfl K_Plan.cl K_Plan.n_table) (de_v 1)) da_nil))))))))), fun ds R ⟨es, e, ok, hR⟩ => ?_⟩
  subst e
  try simp only [ownLst, ownObj, mTake, mOf, fAndV, fOrV, fArgs, fCons, fNil, fVar_0, fVar_s, fUn, fBin, fBool, startE, envOf, slot, gSeq, frzE, gComp, gCompD, wipe_nil, wipe_cons, List.map_cons, List.map_nil, List.cons_append, List.nil_append, List.append_nil, true_and, and_true, List.set_cons_zero, List.set_cons_succ, List.length_cons, List.length_nil, List.replicate_succ, List.replicate_zero, Nat.reduceSub, Nat.reduceAdd, Nat.reduceLT, DEnds.fn, bOf_bl, eq_self, reduceIte, Bool.false_eq_true, gNotV_bl, Bool.not_true, Bool.not_false, g2I_int, g2I0_int, g1I_int, gLen_lst, gLen_tup, gInt_int, gMax2_int, gMin2_int, gIsN_non, gIsN_obj, gIsN_dT, gIsN_dK, gIsN_int, xsOf_lst, tsOf_tup, gIx_t0, gIx_t1, gIx_l0, gIx_l1, gIx_l2, iOf_int, gSlS_str, gCatS_str, gRepS_str, gFind_str, gEqA_int, gEqA_str, gEqA_bl, gTup, gLst, Option.isSome_some, Bool.false_xor, Bool.true_xor, gFor]
  refine fld_plan ?_
  refine ⟨_, keys_tab es, sort_ways (fun w hw => ?_), ?_⟩
  · obtain ⟨e, he, rfl⟩ := List.mem_map.mp hw
    exact ok.way e he
  rw [map_sort_ways]
  refine compD_map wayT (fun k => some (rowT (k, lk0 es k))) (fun k hk N hN => ?_) ?_ ?_
  · refine ⟨_, rfl, ?_⟩
    try simp only [ownLst, ownObj, mTake, mOf, fAndV, fOrV, fArgs, fCons, fNil, fVar_0, fVar_s, fUn, fBin, fBool, startE, envOf, slot, gSeq, frzE, gComp, gCompD, wipe_nil, wipe_cons, List.map_cons, List.map_nil, List.cons_append, List.nil_append, List.append_nil, true_and, and_true, List.set_cons_zero, List.set_cons_succ, List.length_cons, List.length_nil, List.replicate_succ, List.replicate_zero, Nat.reduceSub, Nat.reduceAdd, Nat.reduceLT, DEnds.fn, bOf_bl, eq_self, reduceIte, Bool.false_eq_true, gNotV_bl, Bool.not_true, Bool.not_false, g2I_int, g2I0_int, g1I_int, gLen_lst, gLen_tup, gInt_int, gMax2_int, gMin2_int, gIsN_non, gIsN_obj, gIsN_dT, gIsN_dK, gIsN_int, xsOf_lst, tsOf_tup, gIx_t0, gIx_t1, gIx_l0, gIx_l1, gIx_l2, iOf_int, gSlS_str, gCatS_str, gRepS_str, gFind_str, gEqA_int, gEqA_str, gEqA_bl, gTup, gLst, Option.isSome_some, Bool.false_xor, Bool.true_xor, gFor]
    refine fld_plan ?_
    exact get_go (sk_mem.mp hk) ⟨by show 2 ≤ sizeLine; decide, hN⟩
  · have h1 := sk_len es
    unfold sk at h1
    rw [h1, sz]
    have := ok.len
    omega
  · unfold rows at hR
    rw [List.map_map] at hR
    rw [List.filterMap_eq_map']
    exact hR
abbrev s_cents_before : Stmt := topS 5
theorem sc_cents_before : FnScope ["way", "old", "sent"] ["way", "old", "sent"] (defScope s_cents_before) := ⟨rfl, rfl, rfl, by decide +kernel, rfl, by decide +kernel, by decide +kernel⟩
theorem ok_cents_before {f : Addr} {fd : FuncData} {C_Plan : Addr} (F : Fun K "cents_before" "cents_before" s_cents_before f fd) (T : Bi mg) (c_Plan_cents_of : CalM P w K mg base C_Plan "cents_of" 1 ["self", "way"] (.own 0) [] (w_Plan_cents_of C_Plan)) : FnOk P w K mg base CX0 2 f fd ["way", "old", "sent"] (spD K (.own 0) (w_cents_before C_Plan)) := by
  refine Fun_okD F sc_cents_before (fun _ _ _ h => by obtain ⟨_, _, _, e, _, _⟩ := h; rw [e]; rfl) fun B cdv A outer s H E hr => ⟨_, (ds_cons (ds_if (dt_eq (de_at (de_v 0) (de_int (m := .rd))) (de_str (m := .rd)))
(ds_one (ds_retM (dm_of (de_tup (da_cons (m := .own 0) (de_int (m := .own 0)) (da_cons (m := .own 0) (de_int (m := .own 0)) da_nil))))))
ds_nil)
(ds_cons (ds_if (dt_is (de_v 2) (de_non (m := .rd)))
(ds_one (ds_retM (dm_of (de_tup (da_cons (m := .own 0) (de_Cm _ c_Plan_cents_of hr (de_v 1) (da_cons (m := .own 0) (de_v 0) da_nil)) (da_cons (m := .own 0) (de_int (m := .own 0)) da_nil))))))
ds_nil)
(ds_one (ds_retM (dm_of (de_tup (da_cons (m := .own 0) (de_Cm _ c_Plan_cents_of hr (de_v 1) (da_cons (m := .own 0) (de_v 0) da_nil)) (da_cons (m := .own 0) (de_Cm _ c_Plan_cents_of hr (de_v 2) (da_cons (m := .own 0) (de_v 0) da_nil)) da_nil)))))))), fun ds R ⟨k, o, s, e, hk, hR⟩ => ?_⟩
  subst e
  try simp only [ownLst, ownObj, mTake, mOf, fAndV, fOrV, fArgs, fCons, fNil, fVar_0, fVar_s, fUn, fBin, fBool, startE, envOf, slot, gSeq, frzE, gComp, gCompD, wipe_nil, wipe_cons, List.map_cons, List.map_nil, List.cons_append, List.nil_append, List.append_nil, true_and, and_true, List.set_cons_zero, List.set_cons_succ, List.length_cons, List.length_nil, List.replicate_succ, List.replicate_zero, Nat.reduceSub, Nat.reduceAdd, Nat.reduceLT, DEnds.fn, bOf_bl, eq_self, reduceIte, Bool.false_eq_true, gNotV_bl, Bool.not_true, Bool.not_false, g2I_int, g2I0_int, g1I_int, gLen_lst, gLen_tup, gInt_int, gMax2_int, gMin2_int, gIsN_non, gIsN_obj, gIsN_dT, gIsN_dK, gIsN_int, xsOf_lst, tsOf_tup, gIx_t0, gIx_t1, gIx_l0, gIx_l1, gIx_l2, iOf_int, gSlS_str, gCatS_str, gRepS_str, gFind_str, gEqA_int, gEqA_str, gEqA_bl, gTup, gLst, Option.isSome_some, Bool.false_xor, Bool.true_xor, gFor]
  unfold cb at hR
  refine head_go hk fun x hx => ?_
  try simp only [ownLst, ownObj, mTake, mOf, fAndV, fOrV, fArgs, fCons, fNil, fVar_0, fVar_s, fUn, fBin, fBool, startE, envOf, slot, gSeq, frzE, gComp, gCompD, wipe_nil, wipe_cons, List.map_cons, List.map_nil, List.cons_append, List.nil_append, List.append_nil, true_and, and_true, List.set_cons_zero, List.set_cons_succ, List.length_cons, List.length_nil, List.replicate_succ, List.replicate_zero, Nat.reduceSub, Nat.reduceAdd, Nat.reduceLT, DEnds.fn, bOf_bl, eq_self, reduceIte, Bool.false_eq_true, gNotV_bl, Bool.not_true, Bool.not_false, g2I_int, g2I0_int, g1I_int, gLen_lst, gLen_tup, gInt_int, gMax2_int, gMin2_int, gIsN_non, gIsN_obj, gIsN_dT, gIsN_dK, gIsN_int, xsOf_lst, tsOf_tup, gIx_t0, gIx_t1, gIx_l0, gIx_l1, gIx_l2, iOf_int, gSlS_str, gCatS_str, gRepS_str, gFind_str, gEqA_int, gEqA_str, gEqA_bl, gTup, gLst, Option.isSome_some, Bool.false_xor, Bool.true_xor, gFor]
  rw [hx] at hR
  by_cases c : x = "keep"
  · subst c
    rw [if_pos rfl] at hR
    rw [decide_eq_true rfl]
    try simp only [ownLst, ownObj, mTake, mOf, fAndV, fOrV, fArgs, fCons, fNil, fVar_0, fVar_s, fUn, fBin, fBool, startE, envOf, slot, gSeq, frzE, gComp, gCompD, wipe_nil, wipe_cons, List.map_cons, List.map_nil, List.cons_append, List.nil_append, List.append_nil, true_and, and_true, List.set_cons_zero, List.set_cons_succ, List.length_cons, List.length_nil, List.replicate_succ, List.replicate_zero, Nat.reduceSub, Nat.reduceAdd, Nat.reduceLT, DEnds.fn, bOf_bl, eq_self, reduceIte, Bool.false_eq_true, gNotV_bl, Bool.not_true, Bool.not_false, g2I_int, g2I0_int, g1I_int, gLen_lst, gLen_tup, gInt_int, gMax2_int, gMin2_int, gIsN_non, gIsN_obj, gIsN_dT, gIsN_dK, gIsN_int, xsOf_lst, tsOf_tup, gIx_t0, gIx_t1, gIx_l0, gIx_l1, gIx_l2, iOf_int, gSlS_str, gCatS_str, gRepS_str, gFind_str, gEqA_int, gEqA_str, gEqA_bl, gTup, gLst, Option.isSome_some, Bool.false_xor, Bool.true_xor, gFor]
    exact ⟨by decide, hR⟩
  · rw [if_neg (fun z => c (Option.some.inj z))] at hR
    rw [decide_eq_false c]
    try simp only [ownLst, ownObj, mTake, mOf, fAndV, fOrV, fArgs, fCons, fNil, fVar_0, fVar_s, fUn, fBin, fBool, startE, envOf, slot, gSeq, frzE, gComp, gCompD, wipe_nil, wipe_cons, List.map_cons, List.map_nil, List.cons_append, List.nil_append, List.append_nil, true_and, and_true, List.set_cons_zero, List.set_cons_succ, List.length_cons, List.length_nil, List.replicate_succ, List.replicate_zero, Nat.reduceSub, Nat.reduceAdd, Nat.reduceLT, DEnds.fn, bOf_bl, eq_self, reduceIte, Bool.false_eq_true, gNotV_bl, Bool.not_true, Bool.not_false, g2I_int, g2I0_int, g1I_int, gLen_lst, gLen_tup, gInt_int, gMax2_int, gMin2_int, gIsN_non, gIsN_obj, gIsN_dT, gIsN_dK, gIsN_int, xsOf_lst, tsOf_tup, gIx_t0, gIx_t1, gIx_l0, gIx_l1, gIx_l2, iOf_int, gSlS_str, gCatS_str, gRepS_str, gFind_str, gEqA_int, gEqA_str, gEqA_bl, gTup, gLst, Option.isSome_some, Bool.false_xor, Bool.true_xor, gFor]
    cases s with
    | none =>
      unfold sentD
      try simp only [ownLst, ownObj, mTake, mOf, fAndV, fOrV, fArgs, fCons, fNil, fVar_0, fVar_s, fUn, fBin, fBool, startE, envOf, slot, gSeq, frzE, gComp, gCompD, wipe_nil, wipe_cons, List.map_cons, List.map_nil, List.cons_append, List.nil_append, List.append_nil, true_and, and_true, List.set_cons_zero, List.set_cons_succ, List.length_cons, List.length_nil, List.replicate_succ, List.replicate_zero, Nat.reduceSub, Nat.reduceAdd, Nat.reduceLT, DEnds.fn, bOf_bl, eq_self, reduceIte, Bool.false_eq_true, gNotV_bl, Bool.not_true, Bool.not_false, g2I_int, g2I0_int, g1I_int, gLen_lst, gLen_tup, gInt_int, gMax2_int, gMin2_int, gIsN_non, gIsN_obj, gIsN_dT, gIsN_dK, gIsN_int, xsOf_lst, tsOf_tup, gIx_t0, gIx_t1, gIx_l0, gIx_l1, gIx_l2, iOf_int, gSlS_str, gCatS_str, gRepS_str, gFind_str, gEqA_int, gEqA_str, gEqA_bl, gTup, gLst, Option.isSome_some, Bool.false_xor, Bool.true_xor, gFor]
      exact ⟨⟨rfl, rfl⟩, o, k, rfl, by decide, hR⟩
    | some t =>
      unfold sentD planD
      try simp only [ownLst, ownObj, mTake, mOf, fAndV, fOrV, fArgs, fCons, fNil, fVar_0, fVar_s, fUn, fBin, fBool, startE, envOf, slot, gSeq, frzE, gComp, gCompD, wipe_nil, wipe_cons, List.map_cons, List.map_nil, List.cons_append, List.nil_append, List.append_nil, true_and, and_true, List.set_cons_zero, List.set_cons_succ, List.length_cons, List.length_nil, List.replicate_succ, List.replicate_zero, Nat.reduceSub, Nat.reduceAdd, Nat.reduceLT, DEnds.fn, bOf_bl, eq_self, reduceIte, Bool.false_eq_true, gNotV_bl, Bool.not_true, Bool.not_false, g2I_int, g2I0_int, g1I_int, gLen_lst, gLen_tup, gInt_int, gMax2_int, gMin2_int, gIsN_non, gIsN_obj, gIsN_dT, gIsN_dK, gIsN_int, xsOf_lst, tsOf_tup, gIx_t0, gIx_t1, gIx_l0, gIx_l1, gIx_l2, iOf_int, gSlS_str, gCatS_str, gRepS_str, gFind_str, gEqA_int, gEqA_str, gEqA_bl, gTup, gLst, Option.isSome_some, Bool.false_xor, Bool.true_xor, gFor]
      exact ⟨⟨rfl, rfl⟩, o, k, rfl, ⟨rfl, rfl⟩, t, k, rfl, by decide, hR⟩
abbrev s_change_cost : Stmt := topS 6
theorem sc_change_cost : FnScope ["old", "new", "sent", "hard", "cost", "row", "before", "back", "easy"] ["old", "new", "sent", "hard"] (defScope s_change_cost) := ⟨rfl, rfl, rfl, by decide +kernel, rfl, by decide +kernel, by decide +kernel⟩
theorem ok_change_cost {f : Addr} {fd : FuncData} {C_Plan : Addr} {dvs : List V} {kws : List (Str × V)} (F : FunD K "change_cost" "change_cost" (defArgs s_change_cost) (defBody s_change_cost) (defScope s_change_cost) dvs kws f fd) (T : Bi mg) (c_Plan_cents_of : CalM P w K mg base C_Plan "cents_of" 1 ["self", "way"] (.own 0) [] (w_Plan_cents_of C_Plan)) (c_Plan_rows : CalM P w K mg base C_Plan "rows" 1 ["self"] (.own 0) [] (w_Plan_rows C_Plan)) (c_cents_before : Cal P w K mg base "cents_before" 2 ["way", "old", "sent"] (.own 0) [] (w_cents_before C_Plan)) : FnOk P w K mg base CX0 3 f fd ["old", "new", "sent", "hard"] (spD K (.own 0) (w_change_cost C_Plan)) := by
  refine FunD_okD F sc_change_cost (fun _ _ _ h => by obtain ⟨_, _, _, _, e, _, _, _, _⟩ := h; rw [e]; rfl) fun B cdv A outer s H E hr => ⟨_, (ds_cons (ds_setM 4 0 sc_change_cost.nd rfl (by first | exact Or.inl rfl | exact Or.inr rfl) (by decide) (dm_of (de_int (m := .own 0))))
(ds_cons (ds_for PassesOwn.never rfl (di_list (de_Cm0 _ c_Plan_rows hr (de_v 0))) (dg_name 5 sc_change_cost.nd rfl (by first | exact Or.inl rfl | exact Or.inr rfl) (by decide))
(ds_cons (ds_setM 6 0 sc_change_cost.nd rfl (by first | exact Or.inl rfl | exact Or.inr rfl) (by decide) (dm_of (de_C c_cents_before hr (da_cons (m := .own 0) (de_at (de_v 5) (de_int (m := .rd))) (da_cons (m := .own 0) (de_v 0) (da_cons (m := .own 0) (de_v 2) da_nil))))))
(ds_cons (ds_setM 7 0 sc_change_cost.nd rfl (by first | exact Or.inl rfl | exact Or.inr rfl) (by decide) (dm_of (de_sub (m := .own 0) (de_at (de_v 6) (de_int (m := .rd))) (de_Cm _ c_Plan_cents_of hr (de_v 1) (da_cons (m := .own 0) (de_at (de_v 5) (de_int (m := .rd))) da_nil)))))
(ds_one (ds_if (dt_gt (de_v 7) (de_int (m := .rd)))
(ds_cons (ds_setM 8 0 sc_change_cost.nd rfl (by first | exact Or.inl rfl | exact Or.inr rfl) (by decide) (dm_of (de_min2 (m := .own 0) rfl T.min_ (de_v 7) (de_sub (m := .rd) (de_at (de_v 6) (de_int (m := .rd))) (de_at (de_v 6) (de_int (m := .rd)))))))
(ds_one (ds_setM 4 0 sc_change_cost.nd rfl (by first | exact Or.inl rfl | exact Or.inr rfl) (by decide) (dm_of (de_add (m := .own 0) (de_add (m := .rd) (de_v 4) (de_v 8)) (de_mul (m := .rd) (de_v 3) (de_sub (m := .rd) (de_v 7) (de_v 8))))))))
ds_nil)))))
(ds_one (ds_retM (dm_of (de_v 4)))))), fun ds R ⟨o, n, s, h, e, ok, h1, h2, hR⟩ => ?_⟩
  subst e
  try simp only [ownLst, ownObj, mTake, mOf, fAndV, fOrV, fArgs, fCons, fNil, fVar_0, fVar_s, fUn, fBin, fBool, startE, envOf, slot, gSeq, frzE, gComp, gCompD, wipe_nil, wipe_cons, List.map_cons, List.map_nil, List.cons_append, List.nil_append, List.append_nil, true_and, and_true, List.set_cons_zero, List.set_cons_succ, List.length_cons, List.length_nil, List.replicate_succ, List.replicate_zero, Nat.reduceSub, Nat.reduceAdd, Nat.reduceLT, DEnds.fn, bOf_bl, eq_self, reduceIte, Bool.false_eq_true, gNotV_bl, Bool.not_true, Bool.not_false, g2I_int, g2I0_int, g1I_int, gLen_lst, gLen_tup, gInt_int, gMax2_int, gMin2_int, gIsN_non, gIsN_obj, gIsN_dT, gIsN_dK, gIsN_int, xsOf_lst, tsOf_tup, gIx_t0, gIx_t1, gIx_l0, gIx_l1, gIx_l2, iOf_int, gSlS_str, gCatS_str, gRepS_str, gFind_str, gEqA_int, gEqA_str, gEqA_bl, gTup, gLst, Option.isSome_some, Bool.false_xor, Bool.true_xor, gFor]
  refine ⟨⟨rfl, rfl⟩, o, rfl, ok, ?_⟩
  try simp only [ownLst, ownObj, mTake, mOf, fAndV, fOrV, fArgs, fCons, fNil, fVar_0, fVar_s, fUn, fBin, fBool, startE, envOf, slot, gSeq, frzE, gComp, gCompD, wipe_nil, wipe_cons, List.map_cons, List.map_nil, List.cons_append, List.nil_append, List.append_nil, true_and, and_true, List.set_cons_zero, List.set_cons_succ, List.length_cons, List.length_nil, List.replicate_succ, List.replicate_zero, Nat.reduceSub, Nat.reduceAdd, Nat.reduceLT, DEnds.fn, bOf_bl, eq_self, reduceIte, Bool.false_eq_true, gNotV_bl, Bool.not_true, Bool.not_false, g2I_int, g2I0_int, g1I_int, gLen_lst, gLen_tup, gInt_int, gMax2_int, gMin2_int, gIsN_non, gIsN_obj, gIsN_dT, gIsN_dK, gIsN_int, xsOf_lst, tsOf_tup, gIx_t0, gIx_t1, gIx_l0, gIx_l1, gIx_l2, iOf_int, gSlS_str, gCatS_str, gRepS_str, gFind_str, gEqA_int, gEqA_str, gEqA_bl, gTup, gLst, Option.isSome_some, Bool.false_xor, Bool.true_xor, gFor]
  have ok' : ∀ k ∈ sk o, k ≠ [] := fun k hk => by
    obtain ⟨e, he, rfl⟩ := List.mem_map.mp (sk_mem.mp hk)
    exact (ok.way e he).1
  refine forD_go (fun xs ρ => ∃ (ks : List (List Str)) (a b c d : Option (Nat × D)) (cost : Int), xs = ks.map (fun k => rowT (k, lk0 o k)) ∧ (∀ k ∈ ks, k ≠ []) ∧ ρ = [some (0, planD C_Plan o), some (0, planD C_Plan n), some (0, sentD C_Plan s), some (0, .int h), some (0, .int cost), a, b, c, d] ∧
    ks.foldl (fun c k => c + stepC n (cb k o s) h k) cost = costP o n s h) ?_ ?_ _ _ ⟨sk o, none, none, none, none, 0, by unfold rows; rw [List.map_map]; rfl, ok', rfl, rfl⟩
  · rintro x r ρ ⟨ks, a, b, c, d, cost, ex, hk, rfl, hf⟩ N hN
    cases ks with
    | nil => cases ex
    | cons k ks =>
      rw [List.map_cons] at ex
      injection ex with ex1 ex2
      subst ex1
      refine ⟨_, rfl, ?_⟩
      unfold rowT
      try simp only [ownLst, ownObj, mTake, mOf, fAndV, fOrV, fArgs, fCons, fNil, fVar_0, fVar_s, fUn, fBin, fBool, startE, envOf, slot, gSeq, frzE, gComp, gCompD, wipe_nil, wipe_cons, List.map_cons, List.map_nil, List.cons_append, List.nil_append, List.append_nil, true_and, and_true, List.set_cons_zero, List.set_cons_succ, List.length_cons, List.length_nil, List.replicate_succ, List.replicate_zero, Nat.reduceSub, Nat.reduceAdd, Nat.reduceLT, DEnds.fn, bOf_bl, eq_self, reduceIte, Bool.false_eq_true, gNotV_bl, Bool.not_true, Bool.not_false, g2I_int, g2I0_int, g1I_int, gLen_lst, gLen_tup, gInt_int, gMax2_int, gMin2_int, gIsN_non, gIsN_obj, gIsN_dT, gIsN_dK, gIsN_int, xsOf_lst, tsOf_tup, gIx_t0, gIx_t1, gIx_l0, gIx_l1, gIx_l2, iOf_int, gSlS_str, gCatS_str, gRepS_str, gFind_str, gEqA_int, gEqA_str, gEqA_bl, gTup, gLst, Option.isSome_some, Bool.false_xor, Bool.true_xor, gFor]
      refine ⟨k, o, s, rfl, hk k List.mem_cons_self, ?_⟩
      try simp only [ownLst, ownObj, mTake, mOf, fAndV, fOrV, fArgs, fCons, fNil, fVar_0, fVar_s, fUn, fBin, fBool, startE, envOf, slot, gSeq, frzE, gComp, gCompD, wipe_nil, wipe_cons, List.map_cons, List.map_nil, List.cons_append, List.nil_append, List.append_nil, true_and, and_true, List.set_cons_zero, List.set_cons_succ, List.length_cons, List.length_nil, List.replicate_succ, List.replicate_zero, Nat.reduceSub, Nat.reduceAdd, Nat.reduceLT, DEnds.fn, bOf_bl, eq_self, reduceIte, Bool.false_eq_true, gNotV_bl, Bool.not_true, Bool.not_false, g2I_int, g2I0_int, g1I_int, gLen_lst, gLen_tup, gInt_int, gMax2_int, gMin2_int, gIsN_non, gIsN_obj, gIsN_dT, gIsN_dK, gIsN_int, xsOf_lst, tsOf_tup, gIx_t0, gIx_t1, gIx_l0, gIx_l1, gIx_l2, iOf_int, gSlS_str, gCatS_str, gRepS_str, gFind_str, gEqA_int, gEqA_str, gEqA_bl, gTup, gLst, Option.isSome_some, Bool.false_xor, Bool.true_xor, gFor]
      refine ⟨⟨rfl, rfl⟩, n, k, rfl, ?_⟩
      try simp only [ownLst, ownObj, mTake, mOf, fAndV, fOrV, fArgs, fCons, fNil, fVar_0, fVar_s, fUn, fBin, fBool, startE, envOf, slot, gSeq, frzE, gComp, gCompD, wipe_nil, wipe_cons, List.map_cons, List.map_nil, List.cons_append, List.nil_append, List.append_nil, true_and, and_true, List.set_cons_zero, List.set_cons_succ, List.length_cons, List.length_nil, List.replicate_succ, List.replicate_zero, Nat.reduceSub, Nat.reduceAdd, Nat.reduceLT, DEnds.fn, bOf_bl, eq_self, reduceIte, Bool.false_eq_true, gNotV_bl, Bool.not_true, Bool.not_false, g2I_int, g2I0_int, g1I_int, gLen_lst, gLen_tup, gInt_int, gMax2_int, gMin2_int, gIsN_non, gIsN_obj, gIsN_dT, gIsN_dK, gIsN_int, xsOf_lst, tsOf_tup, gIx_t0, gIx_t1, gIx_l0, gIx_l1, gIx_l2, iOf_int, gSlS_str, gCatS_str, gRepS_str, gFind_str, gEqA_int, gEqA_str, gEqA_bl, gTup, gLst, Option.isSome_some, Bool.false_xor, Bool.true_xor, gFor]
      rw [List.foldl_cons] at hf
      by_cases hb : 0 < (cb k o s).1 - lk0 n k
      · rw [decide_eq_true hb]
        try simp only [ownLst, ownObj, mTake, mOf, fAndV, fOrV, fArgs, fCons, fNil, fVar_0, fVar_s, fUn, fBin, fBool, startE, envOf, slot, gSeq, frzE, gComp, gCompD, wipe_nil, wipe_cons, List.map_cons, List.map_nil, List.cons_append, List.nil_append, List.append_nil, true_and, and_true, List.set_cons_zero, List.set_cons_succ, List.length_cons, List.length_nil, List.replicate_succ, List.replicate_zero, Nat.reduceSub, Nat.reduceAdd, Nat.reduceLT, DEnds.fn, bOf_bl, eq_self, reduceIte, Bool.false_eq_true, gNotV_bl, Bool.not_true, Bool.not_false, g2I_int, g2I0_int, g1I_int, gLen_lst, gLen_tup, gInt_int, gMax2_int, gMin2_int, gIsN_non, gIsN_obj, gIsN_dT, gIsN_dK, gIsN_int, xsOf_lst, tsOf_tup, gIx_t0, gIx_t1, gIx_l0, gIx_l1, gIx_l2, iOf_int, gSlS_str, gCatS_str, gRepS_str, gFind_str, gEqA_int, gEqA_str, gEqA_bl, gTup, gLst, Option.isSome_some, Bool.false_xor, Bool.true_xor, gFor]
        refine ⟨.inl ⟨h1, h2⟩, hN _ ⟨ks, _, _, _, _, _, ex2, fun k' hk' => hk k' (List.mem_cons_of_mem _ hk'), rfl, ?_⟩⟩
        rw [← hf]
        unfold stepC
        rw [if_pos hb, Int.add_assoc]
      · rw [decide_eq_false hb]
        try simp only [ownLst, ownObj, mTake, mOf, fAndV, fOrV, fArgs, fCons, fNil, fVar_0, fVar_s, fUn, fBin, fBool, startE, envOf, slot, gSeq, frzE, gComp, gCompD, wipe_nil, wipe_cons, List.map_cons, List.map_nil, List.cons_append, List.nil_append, List.append_nil, true_and, and_true, List.set_cons_zero, List.set_cons_succ, List.length_cons, List.length_nil, List.replicate_succ, List.replicate_zero, Nat.reduceSub, Nat.reduceAdd, Nat.reduceLT, DEnds.fn, bOf_bl, eq_self, reduceIte, Bool.false_eq_true, gNotV_bl, Bool.not_true, Bool.not_false, g2I_int, g2I0_int, g1I_int, gLen_lst, gLen_tup, gInt_int, gMax2_int, gMin2_int, gIsN_non, gIsN_obj, gIsN_dT, gIsN_dK, gIsN_int, xsOf_lst, tsOf_tup, gIx_t0, gIx_t1, gIx_l0, gIx_l1, gIx_l2, iOf_int, gSlS_str, gCatS_str, gRepS_str, gFind_str, gEqA_int, gEqA_str, gEqA_bl, gTup, gLst, Option.isSome_some, Bool.false_xor, Bool.true_xor, gFor]
        refine hN _ ⟨ks, _, _, _, _, _, ex2, fun k' hk' => hk k' (List.mem_cons_of_mem _ hk'), rfl, ?_⟩
        rw [← hf]
        unfold stepC
        rw [if_neg hb, Int.add_zero]
  · rintro ρ ⟨ks, a, b, c, d, cost, ex, hk, rfl, hf⟩
    cases ks with
    | cons k ks => cases ex
    | nil =>
      try simp only [ownLst, ownObj, mTake, mOf, fAndV, fOrV, fArgs, fCons, fNil, fVar_0, fVar_s, fUn, fBin, fBool, startE, envOf, slot, gSeq, frzE, gComp, gCompD, wipe_nil, wipe_cons, List.map_cons, List.map_nil, List.cons_append, List.nil_append, List.append_nil, true_and, and_true, List.set_cons_zero, List.set_cons_succ, List.length_cons, List.length_nil, List.replicate_succ, List.replicate_zero, Nat.reduceSub, Nat.reduceAdd, Nat.reduceLT, DEnds.fn, bOf_bl, eq_self, reduceIte, Bool.false_eq_true, gNotV_bl, Bool.not_true, Bool.not_false, g2I_int, g2I0_int, g1I_int, gLen_lst, gLen_tup, gInt_int, gMax2_int, gMin2_int, gIsN_non, gIsN_obj, gIsN_dT, gIsN_dK, gIsN_int, xsOf_lst, tsOf_tup, gIx_t0, gIx_t1, gIx_l0, gIx_l1, gIx_l2, iOf_int, gSlS_str, gCatS_str, gRepS_str, gFind_str, gEqA_int, gEqA_str, gEqA_bl, gTup, gLst, Option.isSome_some, Bool.false_xor, Bool.true_xor, gFor]
      have hf : cost = costP o n s h := hf
      rw [hf]
      exact hR
abbrev s_taken_back : Stmt := topS 7
theorem sc_taken_back : FnScope ["old", "new", "rows", "way", "cents"] ["old", "new"] (defScope s_taken_back) := ⟨rfl, rfl, rfl, by decide +kernel, rfl, by decide +kernel, by decide +kernel⟩
theorem ok_taken_back {f : Addr} {fd : FuncData} {C_Plan : Addr} (F : Fun K "taken_back" "taken_back" s_taken_back f fd) (T : Bi mg) (c_Plan_cents_of : CalM P w K mg base C_Plan "cents_of" 1 ["self", "way"] (.own 0) [] (w_Plan_cents_of C_Plan)) (c_Plan_rows : CalM P w K mg base C_Plan "rows" 1 ["self"] (.own 0) [] (w_Plan_rows C_Plan)) : FnOk P w K mg base CX0 2 f fd ["old", "new"] (spD K (.own 1) (w_taken_back C_Plan)) := by
  refine Fun_okD F sc_taken_back (fun _ _ _ h => by obtain ⟨_, _, e, _, _⟩ := h; rw [e]; rfl) fun B cdv A outer s H E hr => ⟨_, (ds_cons (ds_setM 2 1 sc_taken_back.nd rfl (by first | exact Or.inl rfl | exact Or.inr rfl) (by decide) (dm_of (de_lst 0 da_nil)))
(ds_cons (ds_for PassesOwn.never rfl (di_list (de_Cm0 _ c_Plan_rows hr (de_v 0))) (dg_tup rfl (dgs_cons 3 sc_taken_back.nd rfl (by first | exact Or.inl rfl | exact Or.inr rfl) (by decide) (dgs_cons 4 sc_taken_back.nd rfl (by first | exact Or.inl rfl | exact Or.inr rfl) (by decide) dgs_nil)))
(ds_one (ds_if (dt_bool (dw_and (dt_ne (de_at (de_v 3) (de_int (m := .rd))) (de_str (m := .rd))) (dw_and1 (dt_lt (de_Cm _ c_Plan_cents_of hr (de_v 1) (da_cons (m := .own 0) (de_v 3) da_nil)) (de_v 4)))))
(ds_one (ds_exprM (m := .own 0) (dm_append 2 0 (dm_of (de_tup (da_cons (m := .own 0) (de_v 3) (da_cons (m := .own 0) (de_sub (m := .own 0) (de_v 4) (de_Cm _ c_Plan_cents_of hr (de_v 1) (da_cons (m := .own 0) (de_v 3) da_nil))) da_nil)))))))
ds_nil)))
(ds_one (ds_retM (dm_take 2 1))))), fun ds R ⟨o, n, e, ok, hR⟩ => ?_⟩
  subst e
  try simp only [ownLst, ownObj, mTake, mOf, fAndV, fOrV, fArgs, fCons, fNil, fVar_0, fVar_s, fUn, fBin, fBool, startE, envOf, slot, gSeq, frzE, gComp, gCompD, wipe_nil, wipe_cons, List.map_cons, List.map_nil, List.cons_append, List.nil_append, List.append_nil, true_and, and_true, List.set_cons_zero, List.set_cons_succ, List.length_cons, List.length_nil, List.replicate_succ, List.replicate_zero, Nat.reduceSub, Nat.reduceAdd, Nat.reduceLT, DEnds.fn, bOf_bl, eq_self, reduceIte, Bool.false_eq_true, gNotV_bl, Bool.not_true, Bool.not_false, g2I_int, g2I0_int, g1I_int, gLen_lst, gLen_tup, gInt_int, gMax2_int, gMin2_int, gIsN_non, gIsN_obj, gIsN_dT, gIsN_dK, gIsN_int, xsOf_lst, tsOf_tup, gIx_t0, gIx_t1, gIx_l0, gIx_l1, gIx_l2, iOf_int, gSlS_str, gCatS_str, gRepS_str, gFind_str, gEqA_int, gEqA_str, gEqA_bl, gTup, gLst, Option.isSome_some, Bool.false_xor, Bool.true_xor, gFor]
  refine ⟨by decide, ⟨rfl, rfl⟩, o, rfl, ok, ?_⟩
  try simp only [ownLst, ownObj, mTake, mOf, fAndV, fOrV, fArgs, fCons, fNil, fVar_0, fVar_s, fUn, fBin, fBool, startE, envOf, slot, gSeq, frzE, gComp, gCompD, wipe_nil, wipe_cons, List.map_cons, List.map_nil, List.cons_append, List.nil_append, List.append_nil, true_and, and_true, List.set_cons_zero, List.set_cons_succ, List.length_cons, List.length_nil, List.replicate_succ, List.replicate_zero, Nat.reduceSub, Nat.reduceAdd, Nat.reduceLT, DEnds.fn, bOf_bl, eq_self, reduceIte, Bool.false_eq_true, gNotV_bl, Bool.not_true, Bool.not_false, g2I_int, g2I0_int, g1I_int, gLen_lst, gLen_tup, gInt_int, gMax2_int, gMin2_int, gIsN_non, gIsN_obj, gIsN_dT, gIsN_dK, gIsN_int, xsOf_lst, tsOf_tup, gIx_t0, gIx_t1, gIx_l0, gIx_l1, gIx_l2, iOf_int, gSlS_str, gCatS_str, gRepS_str, gFind_str, gEqA_int, gEqA_str, gEqA_bl, gTup, gLst, Option.isSome_some, Bool.false_xor, Bool.true_xor, gFor]
  have ok' : ∀ k ∈ sk o, k ≠ [] := fun k hk => by
    obtain ⟨e, he, rfl⟩ := List.mem_map.mp (sk_mem.mp hk)
    exact (ok.way e he).1
  have hlen : (sk o).length ≤ 100 := by rw [sk_len]; exact ok.len
  refine forD_go (fun xs ρ => ∃ (ks : List (List Str)) (a b : Option (Nat × D)) (acc : List (List Str × Int)), xs = ks.map (fun k => rowT (k, lk0 o k)) ∧ (∀ k ∈ ks, k ≠ []) ∧ acc.length + ks.length ≤ 100 ∧ ρ = [some (0, planD C_Plan o), some (0, planD C_Plan n), some (1, .lst (acc.map rowT)), a, b] ∧
    acc ++ (ks.map fun k => (k, lk0 o k)).filterMap (fun r => if r.1.head? ≠ some ("keep" : Str) ∧ lk0 n r.1 < r.2 then some (r.1, r.2 - lk0 n r.1) else none) = tb o n) ?_ ?_ _ _ ⟨sk o, none, none, [], by unfold rows; rw [List.map_map]; rfl, ok', by simpa using hlen, rfl, rfl⟩
  · rintro x r ρ ⟨ks, a, b, acc, ex, hk, hl, rfl, hf⟩ N hN
    cases ks with
    | nil => cases ex
    | cons k ks =>
      rw [List.map_cons] at ex
      injection ex with ex1 ex2
      subst ex1
      rw [List.length_cons] at hl
      refine ⟨_, rfl, ?_⟩
      try simp only [ownLst, ownObj, mTake, mOf, fAndV, fOrV, fArgs, fCons, fNil, fVar_0, fVar_s, fUn, fBin, fBool, startE, envOf, slot, gSeq, frzE, gComp, gCompD, wipe_nil, wipe_cons, List.map_cons, List.map_nil, List.cons_append, List.nil_append, List.append_nil, true_and, and_true, List.set_cons_zero, List.set_cons_succ, List.length_cons, List.length_nil, List.replicate_succ, List.replicate_zero, Nat.reduceSub, Nat.reduceAdd, Nat.reduceLT, DEnds.fn, bOf_bl, eq_self, reduceIte, Bool.false_eq_true, gNotV_bl, Bool.not_true, Bool.not_false, g2I_int, g2I0_int, g1I_int, gLen_lst, gLen_tup, gInt_int, gMax2_int, gMin2_int, gIsN_non, gIsN_obj, gIsN_dT, gIsN_dK, gIsN_int, xsOf_lst, tsOf_tup, gIx_t0, gIx_t1, gIx_l0, gIx_l1, gIx_l2, iOf_int, gSlS_str, gCatS_str, gRepS_str, gFind_str, gEqA_int, gEqA_str, gEqA_bl, gTup, gLst, Option.isSome_some, Bool.false_xor, Bool.true_xor, gFor]
      refine head_go (hk k List.mem_cons_self) fun x hx => ?_
      try simp only [ownLst, ownObj, mTake, mOf, fAndV, fOrV, fArgs, fCons, fNil, fVar_0, fVar_s, fUn, fBin, fBool, startE, envOf, slot, gSeq, frzE, gComp, gCompD, wipe_nil, wipe_cons, List.map_cons, List.map_nil, List.cons_append, List.nil_append, List.append_nil, true_and, and_true, List.set_cons_zero, List.set_cons_succ, List.length_cons, List.length_nil, List.replicate_succ, List.replicate_zero, Nat.reduceSub, Nat.reduceAdd, Nat.reduceLT, DEnds.fn, bOf_bl, eq_self, reduceIte, Bool.false_eq_true, gNotV_bl, Bool.not_true, Bool.not_false, g2I_int, g2I0_int, g1I_int, gLen_lst, gLen_tup, gInt_int, gMax2_int, gMin2_int, gIsN_non, gIsN_obj, gIsN_dT, gIsN_dK, gIsN_int, xsOf_lst, tsOf_tup, gIx_t0, gIx_t1, gIx_l0, gIx_l1, gIx_l2, iOf_int, gSlS_str, gCatS_str, gRepS_str, gFind_str, gEqA_int, gEqA_str, gEqA_bl, gTup, gLst, Option.isSome_some, Bool.false_xor, Bool.true_xor, gFor]
      rw [List.map_cons, List.filterMap_cons] at hf
      by_cases c : x = "keep"
      · subst c
        rw [decide_eq_true rfl]
        try simp only [ownLst, ownObj, mTake, mOf, fAndV, fOrV, fArgs, fCons, fNil, fVar_0, fVar_s, fUn, fBin, fBool, startE, envOf, slot, gSeq, frzE, gComp, gCompD, wipe_nil, wipe_cons, List.map_cons, List.map_nil, List.cons_append, List.nil_append, List.append_nil, true_and, and_true, List.set_cons_zero, List.set_cons_succ, List.length_cons, List.length_nil, List.replicate_succ, List.replicate_zero, Nat.reduceSub, Nat.reduceAdd, Nat.reduceLT, DEnds.fn, bOf_bl, eq_self, reduceIte, Bool.false_eq_true, gNotV_bl, Bool.not_true, Bool.not_false, g2I_int, g2I0_int, g1I_int, gLen_lst, gLen_tup, gInt_int, gMax2_int, gMin2_int, gIsN_non, gIsN_obj, gIsN_dT, gIsN_dK, gIsN_int, xsOf_lst, tsOf_tup, gIx_t0, gIx_t1, gIx_l0, gIx_l1, gIx_l2, iOf_int, gSlS_str, gCatS_str, gRepS_str, gFind_str, gEqA_int, gEqA_str, gEqA_bl, gTup, gLst, Option.isSome_some, Bool.false_xor, Bool.true_xor, gFor]
        refine hN _ ⟨ks, _, _, acc, ex2, fun k' hk' => hk k' (List.mem_cons_of_mem _ hk'), by omega, rfl, ?_⟩
        rw [← hf, if_neg (fun z => z.1 hx)]
      · have hne : k.head? ≠ some ("keep" : Str) := by rw [hx]; exact fun z => c (Option.some.inj z)
        rw [decide_eq_false c]
        try simp only [ownLst, ownObj, mTake, mOf, fAndV, fOrV, fArgs, fCons, fNil, fVar_0, fVar_s, fUn, fBin, fBool, startE, envOf, slot, gSeq, frzE, gComp, gCompD, wipe_nil, wipe_cons, List.map_cons, List.map_nil, List.cons_append, List.nil_append, List.append_nil, true_and, and_true, List.set_cons_zero, List.set_cons_succ, List.length_cons, List.length_nil, List.replicate_succ, List.replicate_zero, Nat.reduceSub, Nat.reduceAdd, Nat.reduceLT, DEnds.fn, bOf_bl, eq_self, reduceIte, Bool.false_eq_true, gNotV_bl, Bool.not_true, Bool.not_false, g2I_int, g2I0_int, g1I_int, gLen_lst, gLen_tup, gInt_int, gMax2_int, gMin2_int, gIsN_non, gIsN_obj, gIsN_dT, gIsN_dK, gIsN_int, xsOf_lst, tsOf_tup, gIx_t0, gIx_t1, gIx_l0, gIx_l1, gIx_l2, iOf_int, gSlS_str, gCatS_str, gRepS_str, gFind_str, gEqA_int, gEqA_str, gEqA_bl, gTup, gLst, Option.isSome_some, Bool.false_xor, Bool.true_xor, gFor]
        refine ⟨⟨rfl, rfl⟩, n, k, rfl, ?_⟩
        try simp only [ownLst, ownObj, mTake, mOf, fAndV, fOrV, fArgs, fCons, fNil, fVar_0, fVar_s, fUn, fBin, fBool, startE, envOf, slot, gSeq, frzE, gComp, gCompD, wipe_nil, wipe_cons, List.map_cons, List.map_nil, List.cons_append, List.nil_append, List.append_nil, true_and, and_true, List.set_cons_zero, List.set_cons_succ, List.length_cons, List.length_nil, List.replicate_succ, List.replicate_zero, Nat.reduceSub, Nat.reduceAdd, Nat.reduceLT, DEnds.fn, bOf_bl, eq_self, reduceIte, Bool.false_eq_true, gNotV_bl, Bool.not_true, Bool.not_false, g2I_int, g2I0_int, g1I_int, gLen_lst, gLen_tup, gInt_int, gMax2_int, gMin2_int, gIsN_non, gIsN_obj, gIsN_dT, gIsN_dK, gIsN_int, xsOf_lst, tsOf_tup, gIx_t0, gIx_t1, gIx_l0, gIx_l1, gIx_l2, iOf_int, gSlS_str, gCatS_str, gRepS_str, gFind_str, gEqA_int, gEqA_str, gEqA_bl, gTup, gLst, Option.isSome_some, Bool.false_xor, Bool.true_xor, gFor]
        by_cases hb : lk0 n k < lk0 o k
        · rw [decide_eq_true hb]
          try simp only [ownLst, slot, List.set_cons_zero, List.set_cons_succ, reduceIte, true_and]
          try simp only [ownLst, ownObj, mTake, mOf, fAndV, fOrV, fArgs, fCons, fNil, fVar_0, fVar_s, fUn, fBin, fBool, startE, envOf, slot, gSeq, frzE, gComp, gCompD, wipe_nil, wipe_cons, List.map_cons, List.map_nil, List.cons_append, List.nil_append, List.append_nil, true_and, and_true, List.set_cons_zero, List.set_cons_succ, List.length_cons, List.length_nil, List.replicate_succ, List.replicate_zero, Nat.reduceSub, Nat.reduceAdd, Nat.reduceLT, DEnds.fn, bOf_bl, eq_self, reduceIte, Bool.false_eq_true, gNotV_bl, Bool.not_true, Bool.not_false, g2I_int, g2I0_int, g1I_int, gLen_lst, gLen_tup, gInt_int, gMax2_int, gMin2_int, gIsN_non, gIsN_obj, gIsN_dT, gIsN_dK, gIsN_int, xsOf_lst, tsOf_tup, gIx_t0, gIx_t1, gIx_l0, gIx_l1, gIx_l2, iOf_int, gSlS_str, gCatS_str, gRepS_str, gFind_str, gEqA_int, gEqA_str, gEqA_bl, gTup, gLst, Option.isSome_some, Bool.false_xor, Bool.true_xor, gFor]
          refine ⟨⟨rfl, rfl⟩, n, k, rfl, ?_⟩
          try simp only [ownLst, ownObj, mTake, mOf, fAndV, fOrV, fArgs, fCons, fNil, fVar_0, fVar_s, fUn, fBin, fBool, startE, envOf, slot, gSeq, frzE, gComp, gCompD, wipe_nil, wipe_cons, List.map_cons, List.map_nil, List.cons_append, List.nil_append, List.append_nil, true_and, and_true, List.set_cons_zero, List.set_cons_succ, List.length_cons, List.length_nil, List.replicate_succ, List.replicate_zero, Nat.reduceSub, Nat.reduceAdd, Nat.reduceLT, DEnds.fn, bOf_bl, eq_self, reduceIte, Bool.false_eq_true, gNotV_bl, Bool.not_true, Bool.not_false, g2I_int, g2I0_int, g1I_int, gLen_lst, gLen_tup, gInt_int, gMax2_int, gMin2_int, gIsN_non, gIsN_obj, gIsN_dT, gIsN_dK, gIsN_int, xsOf_lst, tsOf_tup, gIx_t0, gIx_t1, gIx_l0, gIx_l1, gIx_l2, iOf_int, gSlS_str, gCatS_str, gRepS_str, gFind_str, gEqA_int, gEqA_str, gEqA_bl, gTup, gLst, Option.isSome_some, Bool.false_xor, Bool.true_xor, gFor]
          refine ⟨by decide, ?_, hN _ ⟨ks, _, _, acc ++ [(k, lk0 o k - lk0 n k)], ex2, fun k' hk' => hk k' (List.mem_cons_of_mem _ hk'), by rw [List.length_append, List.length_singleton]; omega, by rw [List.map_append]; rfl, ?_⟩⟩
          · rw [List.length_map, sz]; omega
          · rw [← hf, if_pos ⟨hne, hb⟩, List.append_assoc]; rfl
        · rw [decide_eq_false hb]
          try simp only [ownLst, ownObj, mTake, mOf, fAndV, fOrV, fArgs, fCons, fNil, fVar_0, fVar_s, fUn, fBin, fBool, startE, envOf, slot, gSeq, frzE, gComp, gCompD, wipe_nil, wipe_cons, List.map_cons, List.map_nil, List.cons_append, List.nil_append, List.append_nil, true_and, and_true, List.set_cons_zero, List.set_cons_succ, List.length_cons, List.length_nil, List.replicate_succ, List.replicate_zero, Nat.reduceSub, Nat.reduceAdd, Nat.reduceLT, DEnds.fn, bOf_bl, eq_self, reduceIte, Bool.false_eq_true, gNotV_bl, Bool.not_true, Bool.not_false, g2I_int, g2I0_int, g1I_int, gLen_lst, gLen_tup, gInt_int, gMax2_int, gMin2_int, gIsN_non, gIsN_obj, gIsN_dT, gIsN_dK, gIsN_int, xsOf_lst, tsOf_tup, gIx_t0, gIx_t1, gIx_l0, gIx_l1, gIx_l2, iOf_int, gSlS_str, gCatS_str, gRepS_str, gFind_str, gEqA_int, gEqA_str, gEqA_bl, gTup, gLst, Option.isSome_some, Bool.false_xor, Bool.true_xor, gFor]
          refine hN _ ⟨ks, _, _, acc, ex2, fun k' hk' => hk k' (List.mem_cons_of_mem _ hk'), by omega, rfl, ?_⟩
          rw [← hf, if_neg (fun z => hb z.2)]
  · rintro ρ ⟨ks, a, b, acc, ex, hk, hl, rfl, hf⟩
    cases ks with
    | cons k ks => cases ex
    | nil =>
      try simp only [mTake, slot, true_and]
      have hf : acc ++ [] = tb o n := hf
      rw [List.append_nil] at hf
      rw [hf]
      exact hR
abbrev s_law_due_cost : Stmt := topS 16
theorem sc_law_due_cost : FnScope ["old", "paid", "price", "new", "total", "way", "left", "spent"] ["old", "paid", "price", "new"] (defScope s_law_due_cost) := ⟨rfl, rfl, rfl, by decide +kernel, rfl, by decide +kernel, by decide +kernel⟩
theorem ok_law_due_cost {f : Addr} {fd : FuncData} (F : Fun K "_law_due_cost" "_law_due_cost" s_law_due_cost f fd) (T : Bi mg)  : FnOk P w K mg base CX0 1 f fd ["old", "paid", "price", "new"] (spD K (.own 0) w_law_due_cost) := by
  refine Fun_okD F sc_law_due_cost (fun _ _ _ h => by obtain ⟨_, _, _, _, e, _, _, _, _⟩ := h; rw [e]; rfl) fun B cdv A outer s H E hr => ⟨_, (ds_cons (ds_setM 4 0 sc_law_due_cost.nd rfl (by first | exact Or.inl rfl | exact Or.inr rfl) (by decide) (dm_of (de_int (m := .own 0))))
(ds_cons (ds_forK PassesOwn.never rfl (de_v 0) (dg_name 5 sc_law_due_cost.nd rfl (by first | exact Or.inl rfl | exact Or.inr rfl) (by decide))
(ds_cons (ds_setM 6 0 sc_law_due_cost.nd rfl (by first | exact Or.inl rfl | exact Or.inr rfl) (by decide) (dm_of (de_dget2 (hr.u 1) (de_v 3) (de_rd (de_v 5)) (de_int (m := .own 0)))))
(ds_one (ds_if (dt_bool (dw_and (dt_ne (de_at (de_v 5) (de_int (m := .rd))) (de_str (m := .rd))) (dw_and1 (dt_lt (de_v 6) (de_dget (hr.u 1) (de_v 0) (de_v 5))))))
(ds_cons (ds_setM 7 0 sc_law_due_cost.nd rfl (by first | exact Or.inl rfl | exact Or.inr rfl) (by decide) (dm_of (de_dget2 (hr.u 1) (de_v 1) (de_rd (de_v 5)) (de_int (m := .own 0)))))
(ds_one (ds_setM 4 0 sc_law_due_cost.nd rfl (by first | exact Or.inl rfl | exact Or.inr rfl) (by decide) (dm_of (de_add (m := .own 0) (de_sub (m := .rd) (de_add (m := .rd) (de_v 4) (de_dget (hr.u 1) (de_v 0) (de_v 5))) (de_max2 (m := .rd) rfl T.max_ (de_v 6) (de_v 7))) (de_mul (m := .rd) (de_v 2) (de_max2 (m := .rd) rfl T.max_ (de_int (m := .rd)) (de_sub (m := .rd) (de_v 7) (de_v 6)))))))))
ds_nil))))
(ds_one (ds_retM (dm_of (de_v 4)))))), fun ds R ⟨o, p, price, n, e, ok, h1, h2, hR⟩ => ?_⟩
  subst e
  try simp only [ownLst, ownObj, mTake, mOf, fAndV, fOrV, fArgs, fCons, fNil, fVar_0, fVar_s, fUn, fBin, fBool, startE, envOf, slot, gSeq, frzE, gComp, gCompD, wipe_nil, wipe_cons, List.map_cons, List.map_nil, List.cons_append, List.nil_append, List.append_nil, true_and, and_true, List.set_cons_zero, List.set_cons_succ, List.length_cons, List.length_nil, List.replicate_succ, List.replicate_zero, Nat.reduceSub, Nat.reduceAdd, Nat.reduceLT, DEnds.fn, bOf_bl, eq_self, reduceIte, Bool.false_eq_true, gNotV_bl, Bool.not_true, Bool.not_false, g2I_int, g2I0_int, g1I_int, gLen_lst, gLen_tup, gInt_int, gMax2_int, gMin2_int, gIsN_non, gIsN_obj, gIsN_dT, gIsN_dK, gIsN_int, xsOf_lst, tsOf_tup, gIx_t0, gIx_t1, gIx_l0, gIx_l1, gIx_l2, iOf_int, gSlS_str, gCatS_str, gRepS_str, gFind_str, gEqA_int, gEqA_str, gEqA_bl, gTup, gLst, Option.isSome_some, Bool.false_xor, Bool.true_xor, gFor]
  refine ⟨_, keys_tab o, ?_⟩
  refine forD_go (fun xs ρ => ∃ (ks : List (List Str)) (a b c : Option (Nat × D)) (t : Int), xs = ks.map wayT ∧ (∀ k ∈ ks, k ∈ o.map (·.1)) ∧ ρ = [some (0, tabD o), some (0, tabD p), some (0, .int price), some (0, tabD n), some (0, .int t), a, b, c] ∧
    ks.foldl (fun c k => c + dueStep o p price n k) t = dueC o p price n) ?_ ?_ _ _ ⟨o.map (·.1), none, none, none, 0, rfl, fun k hk => hk, rfl, rfl⟩
  · rintro x r ρ ⟨ks, a, b, c, t, ex, hk, rfl, hf⟩ N hN
    cases ks with
    | nil => cases ex
    | cons k ks =>
      rw [List.map_cons] at ex
      injection ex with ex1 ex2
      subst ex1
      have hko := hk k List.mem_cons_self
      have hkn : k ≠ [] := by
        obtain ⟨e, he, rfl⟩ := List.mem_map.mp hko
        exact (ok.way e he).1
      refine ⟨_, rfl, ?_⟩
      try simp only [ownLst, ownObj, mTake, mOf, fAndV, fOrV, fArgs, fCons, fNil, fVar_0, fVar_s, fUn, fBin, fBool, startE, envOf, slot, gSeq, frzE, gComp, gCompD, wipe_nil, wipe_cons, List.map_cons, List.map_nil, List.cons_append, List.nil_append, List.append_nil, true_and, and_true, List.set_cons_zero, List.set_cons_succ, List.length_cons, List.length_nil, List.replicate_succ, List.replicate_zero, Nat.reduceSub, Nat.reduceAdd, Nat.reduceLT, DEnds.fn, bOf_bl, eq_self, reduceIte, Bool.false_eq_true, gNotV_bl, Bool.not_true, Bool.not_false, g2I_int, g2I0_int, g1I_int, gLen_lst, gLen_tup, gInt_int, gMax2_int, gMin2_int, gIsN_non, gIsN_obj, gIsN_dT, gIsN_dK, gIsN_int, xsOf_lst, tsOf_tup, gIx_t0, gIx_t1, gIx_l0, gIx_l1, gIx_l2, iOf_int, gSlS_str, gCatS_str, gRepS_str, gFind_str, gEqA_int, gEqA_str, gEqA_bl, gTup, gLst, Option.isSome_some, Bool.false_xor, Bool.true_xor, gFor]
      refine ⟨trivial, get2_go ?_⟩
      try simp only [ownLst, ownObj, mTake, mOf, fAndV, fOrV, fArgs, fCons, fNil, fVar_0, fVar_s, fUn, fBin, fBool, startE, envOf, slot, gSeq, frzE, gComp, gCompD, wipe_nil, wipe_cons, List.map_cons, List.map_nil, List.cons_append, List.nil_append, List.append_nil, true_and, and_true, List.set_cons_zero, List.set_cons_succ, List.length_cons, List.length_nil, List.replicate_succ, List.replicate_zero, Nat.reduceSub, Nat.reduceAdd, Nat.reduceLT, DEnds.fn, bOf_bl, eq_self, reduceIte, Bool.false_eq_true, gNotV_bl, Bool.not_true, Bool.not_false, g2I_int, g2I0_int, g1I_int, gLen_lst, gLen_tup, gInt_int, gMax2_int, gMin2_int, gIsN_non, gIsN_obj, gIsN_dT, gIsN_dK, gIsN_int, xsOf_lst, tsOf_tup, gIx_t0, gIx_t1, gIx_l0, gIx_l1, gIx_l2, iOf_int, gSlS_str, gCatS_str, gRepS_str, gFind_str, gEqA_int, gEqA_str, gEqA_bl, gTup, gLst, Option.isSome_some, Bool.false_xor, Bool.true_xor, gFor]
      refine head_go hkn fun x hx => ?_
      try simp only [ownLst, ownObj, mTake, mOf, fAndV, fOrV, fArgs, fCons, fNil, fVar_0, fVar_s, fUn, fBin, fBool, startE, envOf, slot, gSeq, frzE, gComp, gCompD, wipe_nil, wipe_cons, List.map_cons, List.map_nil, List.cons_append, List.nil_append, List.append_nil, true_and, and_true, List.set_cons_zero, List.set_cons_succ, List.length_cons, List.length_nil, List.replicate_succ, List.replicate_zero, Nat.reduceSub, Nat.reduceAdd, Nat.reduceLT, DEnds.fn, bOf_bl, eq_self, reduceIte, Bool.false_eq_true, gNotV_bl, Bool.not_true, Bool.not_false, g2I_int, g2I0_int, g1I_int, gLen_lst, gLen_tup, gInt_int, gMax2_int, gMin2_int, gIsN_non, gIsN_obj, gIsN_dT, gIsN_dK, gIsN_int, xsOf_lst, tsOf_tup, gIx_t0, gIx_t1, gIx_l0, gIx_l1, gIx_l2, iOf_int, gSlS_str, gCatS_str, gRepS_str, gFind_str, gEqA_int, gEqA_str, gEqA_bl, gTup, gLst, Option.isSome_some, Bool.false_xor, Bool.true_xor, gFor]
      rw [List.foldl_cons] at hf
      by_cases c : x = "keep"
      · subst c
        rw [decide_eq_true rfl]
        try simp only [ownLst, ownObj, mTake, mOf, fAndV, fOrV, fArgs, fCons, fNil, fVar_0, fVar_s, fUn, fBin, fBool, startE, envOf, slot, gSeq, frzE, gComp, gCompD, wipe_nil, wipe_cons, List.map_cons, List.map_nil, List.cons_append, List.nil_append, List.append_nil, true_and, and_true, List.set_cons_zero, List.set_cons_succ, List.length_cons, List.length_nil, List.replicate_succ, List.replicate_zero, Nat.reduceSub, Nat.reduceAdd, Nat.reduceLT, DEnds.fn, bOf_bl, eq_self, reduceIte, Bool.false_eq_true, gNotV_bl, Bool.not_true, Bool.not_false, g2I_int, g2I0_int, g1I_int, gLen_lst, gLen_tup, gInt_int, gMax2_int, gMin2_int, gIsN_non, gIsN_obj, gIsN_dT, gIsN_dK, gIsN_int, xsOf_lst, tsOf_tup, gIx_t0, gIx_t1, gIx_l0, gIx_l1, gIx_l2, iOf_int, gSlS_str, gCatS_str, gRepS_str, gFind_str, gEqA_int, gEqA_str, gEqA_bl, gTup, gLst, Option.isSome_some, Bool.false_xor, Bool.true_xor, gFor]
        refine hN _ ⟨ks, _, _, _, _, ex2, fun k' hk' => hk k' (List.mem_cons_of_mem _ hk'), rfl, ?_⟩
        rw [← hf]
        unfold dueStep
        rw [if_neg (fun z => z.1 hx), Int.add_zero]
      · have hne : k.head? ≠ some ("keep" : Str) := by rw [hx]; exact fun z => c (Option.some.inj z)
        rw [decide_eq_false c]
        try simp only [ownLst, ownObj, mTake, mOf, fAndV, fOrV, fArgs, fCons, fNil, fVar_0, fVar_s, fUn, fBin, fBool, startE, envOf, slot, gSeq, frzE, gComp, gCompD, wipe_nil, wipe_cons, List.map_cons, List.map_nil, List.cons_append, List.nil_append, List.append_nil, true_and, and_true, List.set_cons_zero, List.set_cons_succ, List.length_cons, List.length_nil, List.replicate_succ, List.replicate_zero, Nat.reduceSub, Nat.reduceAdd, Nat.reduceLT, DEnds.fn, bOf_bl, eq_self, reduceIte, Bool.false_eq_true, gNotV_bl, Bool.not_true, Bool.not_false, g2I_int, g2I0_int, g1I_int, gLen_lst, gLen_tup, gInt_int, gMax2_int, gMin2_int, gIsN_non, gIsN_obj, gIsN_dT, gIsN_dK, gIsN_int, xsOf_lst, tsOf_tup, gIx_t0, gIx_t1, gIx_l0, gIx_l1, gIx_l2, iOf_int, gSlS_str, gCatS_str, gRepS_str, gFind_str, gEqA_int, gEqA_str, gEqA_bl, gTup, gLst, Option.isSome_some, Bool.false_xor, Bool.true_xor, gFor]
        refine get_go hko ?_
        try simp only [ownLst, ownObj, mTake, mOf, fAndV, fOrV, fArgs, fCons, fNil, fVar_0, fVar_s, fUn, fBin, fBool, startE, envOf, slot, gSeq, frzE, gComp, gCompD, wipe_nil, wipe_cons, List.map_cons, List.map_nil, List.cons_append, List.nil_append, List.append_nil, true_and, and_true, List.set_cons_zero, List.set_cons_succ, List.length_cons, List.length_nil, List.replicate_succ, List.replicate_zero, Nat.reduceSub, Nat.reduceAdd, Nat.reduceLT, DEnds.fn, bOf_bl, eq_self, reduceIte, Bool.false_eq_true, gNotV_bl, Bool.not_true, Bool.not_false, g2I_int, g2I0_int, g1I_int, gLen_lst, gLen_tup, gInt_int, gMax2_int, gMin2_int, gIsN_non, gIsN_obj, gIsN_dT, gIsN_dK, gIsN_int, xsOf_lst, tsOf_tup, gIx_t0, gIx_t1, gIx_l0, gIx_l1, gIx_l2, iOf_int, gSlS_str, gCatS_str, gRepS_str, gFind_str, gEqA_int, gEqA_str, gEqA_bl, gTup, gLst, Option.isSome_some, Bool.false_xor, Bool.true_xor, gFor]
        by_cases hb : lk0 n k < lk0 o k
        · rw [decide_eq_true hb]
          try simp only [ownLst, ownObj, mTake, mOf, fAndV, fOrV, fArgs, fCons, fNil, fVar_0, fVar_s, fUn, fBin, fBool, startE, envOf, slot, gSeq, frzE, gComp, gCompD, wipe_nil, wipe_cons, List.map_cons, List.map_nil, List.cons_append, List.nil_append, List.append_nil, true_and, and_true, List.set_cons_zero, List.set_cons_succ, List.length_cons, List.length_nil, List.replicate_succ, List.replicate_zero, Nat.reduceSub, Nat.reduceAdd, Nat.reduceLT, DEnds.fn, bOf_bl, eq_self, reduceIte, Bool.false_eq_true, gNotV_bl, Bool.not_true, Bool.not_false, g2I_int, g2I0_int, g1I_int, gLen_lst, gLen_tup, gInt_int, gMax2_int, gMin2_int, gIsN_non, gIsN_obj, gIsN_dT, gIsN_dK, gIsN_int, xsOf_lst, tsOf_tup, gIx_t0, gIx_t1, gIx_l0, gIx_l1, gIx_l2, iOf_int, gSlS_str, gCatS_str, gRepS_str, gFind_str, gEqA_int, gEqA_str, gEqA_bl, gTup, gLst, Option.isSome_some, Bool.false_xor, Bool.true_xor, gFor]
          refine ⟨trivial, get2_go ?_⟩
          try simp only [ownLst, ownObj, mTake, mOf, fAndV, fOrV, fArgs, fCons, fNil, fVar_0, fVar_s, fUn, fBin, fBool, startE, envOf, slot, gSeq, frzE, gComp, gCompD, wipe_nil, wipe_cons, List.map_cons, List.map_nil, List.cons_append, List.nil_append, List.append_nil, true_and, and_true, List.set_cons_zero, List.set_cons_succ, List.length_cons, List.length_nil, List.replicate_succ, List.replicate_zero, Nat.reduceSub, Nat.reduceAdd, Nat.reduceLT, DEnds.fn, bOf_bl, eq_self, reduceIte, Bool.false_eq_true, gNotV_bl, Bool.not_true, Bool.not_false, g2I_int, g2I0_int, g1I_int, gLen_lst, gLen_tup, gInt_int, gMax2_int, gMin2_int, gIsN_non, gIsN_obj, gIsN_dT, gIsN_dK, gIsN_int, xsOf_lst, tsOf_tup, gIx_t0, gIx_t1, gIx_l0, gIx_l1, gIx_l2, iOf_int, gSlS_str, gCatS_str, gRepS_str, gFind_str, gEqA_int, gEqA_str, gEqA_bl, gTup, gLst, Option.isSome_some, Bool.false_xor, Bool.true_xor, gFor]
          refine get_go hko ?_
          try simp only [ownLst, ownObj, mTake, mOf, fAndV, fOrV, fArgs, fCons, fNil, fVar_0, fVar_s, fUn, fBin, fBool, startE, envOf, slot, gSeq, frzE, gComp, gCompD, wipe_nil, wipe_cons, List.map_cons, List.map_nil, List.cons_append, List.nil_append, List.append_nil, true_and, and_true, List.set_cons_zero, List.set_cons_succ, List.length_cons, List.length_nil, List.replicate_succ, List.replicate_zero, Nat.reduceSub, Nat.reduceAdd, Nat.reduceLT, DEnds.fn, bOf_bl, eq_self, reduceIte, Bool.false_eq_true, gNotV_bl, Bool.not_true, Bool.not_false, g2I_int, g2I0_int, g1I_int, gLen_lst, gLen_tup, gInt_int, gMax2_int, gMin2_int, gIsN_non, gIsN_obj, gIsN_dT, gIsN_dK, gIsN_int, xsOf_lst, tsOf_tup, gIx_t0, gIx_t1, gIx_l0, gIx_l1, gIx_l2, iOf_int, gSlS_str, gCatS_str, gRepS_str, gFind_str, gEqA_int, gEqA_str, gEqA_bl, gTup, gLst, Option.isSome_some, Bool.false_xor, Bool.true_xor, gFor]
          refine ⟨.inl ⟨h1, h2⟩, hN _ ⟨ks, _, _, _, _, ex2, fun k' hk' => hk k' (List.mem_cons_of_mem _ hk'), rfl, ?_⟩⟩
          rw [← hf]
          unfold dueStep
          rw [if_pos (show k.head? ≠ some ("keep" : Str) ∧ lk0 n k < lk0 o k from ⟨hne, hb⟩)]
          congr 1
          have ar : ∀ a b c d : Int, a + b - c + d = a + (b - c + d) := by intros; omega
          exact ar _ _ _ _
        · rw [decide_eq_false hb]
          try simp only [ownLst, ownObj, mTake, mOf, fAndV, fOrV, fArgs, fCons, fNil, fVar_0, fVar_s, fUn, fBin, fBool, startE, envOf, slot, gSeq, frzE, gComp, gCompD, wipe_nil, wipe_cons, List.map_cons, List.map_nil, List.cons_append, List.nil_append, List.append_nil, true_and, and_true, List.set_cons_zero, List.set_cons_succ, List.length_cons, List.length_nil, List.replicate_succ, List.replicate_zero, Nat.reduceSub, Nat.reduceAdd, Nat.reduceLT, DEnds.fn, bOf_bl, eq_self, reduceIte, Bool.false_eq_true, gNotV_bl, Bool.not_true, Bool.not_false, g2I_int, g2I0_int, g1I_int, gLen_lst, gLen_tup, gInt_int, gMax2_int, gMin2_int, gIsN_non, gIsN_obj, gIsN_dT, gIsN_dK, gIsN_int, xsOf_lst, tsOf_tup, gIx_t0, gIx_t1, gIx_l0, gIx_l1, gIx_l2, iOf_int, gSlS_str, gCatS_str, gRepS_str, gFind_str, gEqA_int, gEqA_str, gEqA_bl, gTup, gLst, Option.isSome_some, Bool.false_xor, Bool.true_xor, gFor]
          refine hN _ ⟨ks, _, _, _, _, ex2, fun k' hk' => hk k' (List.mem_cons_of_mem _ hk'), rfl, ?_⟩
          rw [← hf]
          unfold dueStep
          rw [if_neg (fun z => hb z.2), Int.add_zero]
  · rintro ρ ⟨ks, a, b, c, t, ex, hk, rfl, hf⟩
    cases ks with
    | cons k ks => cases ex
    | nil =>
      try simp only [ownLst, ownObj, mTake, mOf, fAndV, fOrV, fArgs, fCons, fNil, fVar_0, fVar_s, fUn, fBin, fBool, startE, envOf, slot, gSeq, frzE, gComp, gCompD, wipe_nil, wipe_cons, List.map_cons, List.map_nil, List.cons_append, List.nil_append, List.append_nil, true_and, and_true, List.set_cons_zero, List.set_cons_succ, List.length_cons, List.length_nil, List.replicate_succ, List.replicate_zero, Nat.reduceSub, Nat.reduceAdd, Nat.reduceLT, DEnds.fn, bOf_bl, eq_self, reduceIte, Bool.false_eq_true, gNotV_bl, Bool.not_true, Bool.not_false, g2I_int, g2I0_int, g1I_int, gLen_lst, gLen_tup, gInt_int, gMax2_int, gMin2_int, gIsN_non, gIsN_obj, gIsN_dT, gIsN_dK, gIsN_int, xsOf_lst, tsOf_tup, gIx_t0, gIx_t1, gIx_l0, gIx_l1, gIx_l2, iOf_int, gSlS_str, gCatS_str, gRepS_str, gFind_str, gEqA_int, gEqA_str, gEqA_bl, gTup, gLst, Option.isSome_some, Bool.false_xor, Bool.true_xor, gFor]
      have hf : t = dueC o p price n := hf
      rw [hf]
      exact hR
abbrev s_law_due_back : Stmt := topS 17
theorem sc_law_due_back : FnScope ["old", "new", "way"] ["old", "new"] (defScope s_law_due_back) := ⟨rfl, rfl, rfl, by decide +kernel, rfl, by decide +kernel, by decide +kernel⟩
theorem ok_law_due_back {f : Addr} {fd : FuncData} (F : Fun K "_law_due_back" "_law_due_back" s_law_due_back f fd) (T : Bi mg)  : FnOk P w K mg base CX0 1 f fd ["old", "new"] (spD K (.own 0) w_law_due_back) := by
  refine Fun_okD F sc_law_due_back (fun _ _ _ h => by obtain ⟨_, _, e, _, _⟩ := h; rw [e]; rfl) fun B cdv A outer s H E hr => ⟨_, (ds_one (ds_retM (dm_of (de_frz (de_sorted (hr.u 67) T.sorted_ (de_frz (de_lcK (own := [("way", 2)]) 0 rfl sc_law_due_back.nd (de_v 0) (blk_of ["old", "new", "way"] (defScope s_law_due_back) rfl (by decide +kernel) (by decide +kernel) (by decide +kernel) (by decide +kernel)) (dgc_name 2 sc_law_due_back.nd rfl) (hol_cons rfl (fun _ _ => rfl) hol_nil) (fun _ _ _ _ _ => dts_one (dt_bool (dw_and (dt_ne (de_at (de_v 2) (de_int (m := .rd))) (de_str (m := .rd))) (dw_and1 (dt_lt (de_dget2 (hr.u 1) (de_v 1) (de_rd (de_v 2)) (de_int (m := .own 0))) (de_dget (hr.u 1) (de_v 0) (de_v 2))))))) (fun _ _ _ _ _ => (de_tup (da_cons (m := .own 0) (de_v 2) (da_cons (m := .own 0) (de_sub (m := .own 0) (de_dget (hr.u 1) (de_v 0) (de_v 2)) (de_dget2 (hr.u 1) (de_v 1) (de_rd (de_v 2)) (de_int (m := .own 0)))) da_nil))))))))))), fun ds R ⟨o, n, e, ok, hR⟩ => ?_⟩
  subst e
  try simp only [ownLst, ownObj, mTake, mOf, fAndV, fOrV, fArgs, fCons, fNil, fVar_0, fVar_s, fUn, fBin, fBool, startE, envOf, slot, gSeq, frzE, gComp, gCompD, wipe_nil, wipe_cons, List.map_cons, List.map_nil, List.cons_append, List.nil_append, List.append_nil, true_and, and_true, List.set_cons_zero, List.set_cons_succ, List.length_cons, List.length_nil, List.replicate_succ, List.replicate_zero, Nat.reduceSub, Nat.reduceAdd, Nat.reduceLT, DEnds.fn, bOf_bl, eq_self, reduceIte, Bool.false_eq_true, gNotV_bl, Bool.not_true, Bool.not_false, g2I_int, g2I0_int, g1I_int, gLen_lst, gLen_tup, gInt_int, gMax2_int, gMin2_int, gIsN_non, gIsN_obj, gIsN_dT, gIsN_dK, gIsN_int, xsOf_lst, tsOf_tup, gIx_t0, gIx_t1, gIx_l0, gIx_l1, gIx_l2, iOf_int, gSlS_str, gCatS_str, gRepS_str, gFind_str, gEqA_int, gEqA_str, gEqA_bl, gTup, gLst, Option.isSome_some, Bool.false_xor, Bool.true_xor, gFor]
  refine ⟨_, keys_tab o, ?_⟩
  refine compD_map wayT (fun k => if wantP o n k = true then some (rowT (k, lk0 o k - lk0 n k)) else none) (fun k hk N hN => ?_) ?_ ?_
  · have hkn : k ≠ [] := by
      obtain ⟨e, he, rfl⟩ := List.mem_map.mp hk
      exact (ok.way e he).1
    refine ⟨_, rfl, ?_⟩
    try simp only [ownLst, ownObj, mTake, mOf, fAndV, fOrV, fArgs, fCons, fNil, fVar_0, fVar_s, fUn, fBin, fBool, startE, envOf, slot, gSeq, frzE, gComp, gCompD, wipe_nil, wipe_cons, List.map_cons, List.map_nil, List.cons_append, List.nil_append, List.append_nil, true_and, and_true, List.set_cons_zero, List.set_cons_succ, List.length_cons, List.length_nil, List.replicate_succ, List.replicate_zero, Nat.reduceSub, Nat.reduceAdd, Nat.reduceLT, DEnds.fn, bOf_bl, eq_self, reduceIte, Bool.false_eq_true, gNotV_bl, Bool.not_true, Bool.not_false, g2I_int, g2I0_int, g1I_int, gLen_lst, gLen_tup, gInt_int, gMax2_int, gMin2_int, gIsN_non, gIsN_obj, gIsN_dT, gIsN_dK, gIsN_int, xsOf_lst, tsOf_tup, gIx_t0, gIx_t1, gIx_l0, gIx_l1, gIx_l2, iOf_int, gSlS_str, gCatS_str, gRepS_str, gFind_str, gEqA_int, gEqA_str, gEqA_bl, gTup, gLst, Option.isSome_some, Bool.false_xor, Bool.true_xor, gFor]
    refine head_go hkn fun x hx => ?_
    try simp only [ownLst, ownObj, mTake, mOf, fAndV, fOrV, fArgs, fCons, fNil, fVar_0, fVar_s, fUn, fBin, fBool, startE, envOf, slot, gSeq, frzE, gComp, gCompD, wipe_nil, wipe_cons, List.map_cons, List.map_nil, List.cons_append, List.nil_append, List.append_nil, true_and, and_true, List.set_cons_zero, List.set_cons_succ, List.length_cons, List.length_nil, List.replicate_succ, List.replicate_zero, Nat.reduceSub, Nat.reduceAdd, Nat.reduceLT, DEnds.fn, bOf_bl, eq_self, reduceIte, Bool.false_eq_true, gNotV_bl, Bool.not_true, Bool.not_false, g2I_int, g2I0_int, g1I_int, gLen_lst, gLen_tup, gInt_int, gMax2_int, gMin2_int, gIsN_non, gIsN_obj, gIsN_dT, gIsN_dK, gIsN_int, xsOf_lst, tsOf_tup, gIx_t0, gIx_t1, gIx_l0, gIx_l1, gIx_l2, iOf_int, gSlS_str, gCatS_str, gRepS_str, gFind_str, gEqA_int, gEqA_str, gEqA_bl, gTup, gLst, Option.isSome_some, Bool.false_xor, Bool.true_xor, gFor]
    by_cases c : x = "keep"
    · subst c
      rw [decide_eq_true rfl]
      try simp only [ownLst, ownObj, mTake, mOf, fAndV, fOrV, fArgs, fCons, fNil, fVar_0, fVar_s, fUn, fBin, fBool, startE, envOf, slot, gSeq, frzE, gComp, gCompD, wipe_nil, wipe_cons, List.map_cons, List.map_nil, List.cons_append, List.nil_append, List.append_nil, true_and, and_true, List.set_cons_zero, List.set_cons_succ, List.length_cons, List.length_nil, List.replicate_succ, List.replicate_zero, Nat.reduceSub, Nat.reduceAdd, Nat.reduceLT, DEnds.fn, bOf_bl, eq_self, reduceIte, Bool.false_eq_true, gNotV_bl, Bool.not_true, Bool.not_false, g2I_int, g2I0_int, g1I_int, gLen_lst, gLen_tup, gInt_int, gMax2_int, gMin2_int, gIsN_non, gIsN_obj, gIsN_dT, gIsN_dK, gIsN_int, xsOf_lst, tsOf_tup, gIx_t0, gIx_t1, gIx_l0, gIx_l1, gIx_l2, iOf_int, gSlS_str, gCatS_str, gRepS_str, gFind_str, gEqA_int, gEqA_str, gEqA_bl, gTup, gLst, Option.isSome_some, Bool.false_xor, Bool.true_xor, gFor]
      rw [if_neg (by unfold wantP; rw [decide_eq_false (fun z => z.1 hx)]; exact Bool.false_ne_true)] at hN
      exact hN
    · have hne : k.head? ≠ some ("keep" : Str) := by rw [hx]; exact fun z => c (Option.some.inj z)
      rw [decide_eq_false c]
      try simp only [ownLst, ownObj, mTake, mOf, fAndV, fOrV, fArgs, fCons, fNil, fVar_0, fVar_s, fUn, fBin, fBool, startE, envOf, slot, gSeq, frzE, gComp, gCompD, wipe_nil, wipe_cons, List.map_cons, List.map_nil, List.cons_append, List.nil_append, List.append_nil, true_and, and_true, List.set_cons_zero, List.set_cons_succ, List.length_cons, List.length_nil, List.replicate_succ, List.replicate_zero, Nat.reduceSub, Nat.reduceAdd, Nat.reduceLT, DEnds.fn, bOf_bl, eq_self, reduceIte, Bool.false_eq_true, gNotV_bl, Bool.not_true, Bool.not_false, g2I_int, g2I0_int, g1I_int, gLen_lst, gLen_tup, gInt_int, gMax2_int, gMin2_int, gIsN_non, gIsN_obj, gIsN_dT, gIsN_dK, gIsN_int, xsOf_lst, tsOf_tup, gIx_t0, gIx_t1, gIx_l0, gIx_l1, gIx_l2, iOf_int, gSlS_str, gCatS_str, gRepS_str, gFind_str, gEqA_int, gEqA_str, gEqA_bl, gTup, gLst, Option.isSome_some, Bool.false_xor, Bool.true_xor, gFor]
      refine ⟨trivial, get2_go ?_⟩
      try simp only [ownLst, ownObj, mTake, mOf, fAndV, fOrV, fArgs, fCons, fNil, fVar_0, fVar_s, fUn, fBin, fBool, startE, envOf, slot, gSeq, frzE, gComp, gCompD, wipe_nil, wipe_cons, List.map_cons, List.map_nil, List.cons_append, List.nil_append, List.append_nil, true_and, and_true, List.set_cons_zero, List.set_cons_succ, List.length_cons, List.length_nil, List.replicate_succ, List.replicate_zero, Nat.reduceSub, Nat.reduceAdd, Nat.reduceLT, DEnds.fn, bOf_bl, eq_self, reduceIte, Bool.false_eq_true, gNotV_bl, Bool.not_true, Bool.not_false, g2I_int, g2I0_int, g1I_int, gLen_lst, gLen_tup, gInt_int, gMax2_int, gMin2_int, gIsN_non, gIsN_obj, gIsN_dT, gIsN_dK, gIsN_int, xsOf_lst, tsOf_tup, gIx_t0, gIx_t1, gIx_l0, gIx_l1, gIx_l2, iOf_int, gSlS_str, gCatS_str, gRepS_str, gFind_str, gEqA_int, gEqA_str, gEqA_bl, gTup, gLst, Option.isSome_some, Bool.false_xor, Bool.true_xor, gFor]
      refine get_go hk ?_
      try simp only [ownLst, ownObj, mTake, mOf, fAndV, fOrV, fArgs, fCons, fNil, fVar_0, fVar_s, fUn, fBin, fBool, startE, envOf, slot, gSeq, frzE, gComp, gCompD, wipe_nil, wipe_cons, List.map_cons, List.map_nil, List.cons_append, List.nil_append, List.append_nil, true_and, and_true, List.set_cons_zero, List.set_cons_succ, List.length_cons, List.length_nil, List.replicate_succ, List.replicate_zero, Nat.reduceSub, Nat.reduceAdd, Nat.reduceLT, DEnds.fn, bOf_bl, eq_self, reduceIte, Bool.false_eq_true, gNotV_bl, Bool.not_true, Bool.not_false, g2I_int, g2I0_int, g1I_int, gLen_lst, gLen_tup, gInt_int, gMax2_int, gMin2_int, gIsN_non, gIsN_obj, gIsN_dT, gIsN_dK, gIsN_int, xsOf_lst, tsOf_tup, gIx_t0, gIx_t1, gIx_l0, gIx_l1, gIx_l2, iOf_int, gSlS_str, gCatS_str, gRepS_str, gFind_str, gEqA_int, gEqA_str, gEqA_bl, gTup, gLst, Option.isSome_some, Bool.false_xor, Bool.true_xor, gFor]
      by_cases hb : lk0 n k < lk0 o k
      · rw [if_pos (by unfold wantP; exact decide_eq_true ⟨hne, hb⟩)] at hN
        rw [decide_eq_true hb]
        try simp only [ownLst, ownObj, mTake, mOf, fAndV, fOrV, fArgs, fCons, fNil, fVar_0, fVar_s, fUn, fBin, fBool, startE, envOf, slot, gSeq, frzE, gComp, gCompD, wipe_nil, wipe_cons, List.map_cons, List.map_nil, List.cons_append, List.nil_append, List.append_nil, true_and, and_true, List.set_cons_zero, List.set_cons_succ, List.length_cons, List.length_nil, List.replicate_succ, List.replicate_zero, Nat.reduceSub, Nat.reduceAdd, Nat.reduceLT, DEnds.fn, bOf_bl, eq_self, reduceIte, Bool.false_eq_true, gNotV_bl, Bool.not_true, Bool.not_false, g2I_int, g2I0_int, g1I_int, gLen_lst, gLen_tup, gInt_int, gMax2_int, gMin2_int, gIsN_non, gIsN_obj, gIsN_dT, gIsN_dK, gIsN_int, xsOf_lst, tsOf_tup, gIx_t0, gIx_t1, gIx_l0, gIx_l1, gIx_l2, iOf_int, gSlS_str, gCatS_str, gRepS_str, gFind_str, gEqA_int, gEqA_str, gEqA_bl, gTup, gLst, Option.isSome_some, Bool.false_xor, Bool.true_xor, gFor]
        refine get_go hk ⟨trivial, get2_go ?_⟩
        try simp only [ownLst, ownObj, mTake, mOf, fAndV, fOrV, fArgs, fCons, fNil, fVar_0, fVar_s, fUn, fBin, fBool, startE, envOf, slot, gSeq, frzE, gComp, gCompD, wipe_nil, wipe_cons, List.map_cons, List.map_nil, List.cons_append, List.nil_append, List.append_nil, true_and, and_true, List.set_cons_zero, List.set_cons_succ, List.length_cons, List.length_nil, List.replicate_succ, List.replicate_zero, Nat.reduceSub, Nat.reduceAdd, Nat.reduceLT, DEnds.fn, bOf_bl, eq_self, reduceIte, Bool.false_eq_true, gNotV_bl, Bool.not_true, Bool.not_false, g2I_int, g2I0_int, g1I_int, gLen_lst, gLen_tup, gInt_int, gMax2_int, gMin2_int, gIsN_non, gIsN_obj, gIsN_dT, gIsN_dK, gIsN_int, xsOf_lst, tsOf_tup, gIx_t0, gIx_t1, gIx_l0, gIx_l1, gIx_l2, iOf_int, gSlS_str, gCatS_str, gRepS_str, gFind_str, gEqA_int, gEqA_str, gEqA_bl, gTup, gLst, Option.isSome_some, Bool.false_xor, Bool.true_xor, gFor]
        exact ⟨by decide, hN⟩
      · rw [if_neg (by unfold wantP; rw [decide_eq_false (fun z => hb z.2)]; exact Bool.false_ne_true)] at hN
        rw [decide_eq_false hb]
        try simp only [ownLst, ownObj, mTake, mOf, fAndV, fOrV, fArgs, fCons, fNil, fVar_0, fVar_s, fUn, fBin, fBool, startE, envOf, slot, gSeq, frzE, gComp, gCompD, wipe_nil, wipe_cons, List.map_cons, List.map_nil, List.cons_append, List.nil_append, List.append_nil, true_and, and_true, List.set_cons_zero, List.set_cons_succ, List.length_cons, List.length_nil, List.replicate_succ, List.replicate_zero, Nat.reduceSub, Nat.reduceAdd, Nat.reduceLT, DEnds.fn, bOf_bl, eq_self, reduceIte, Bool.false_eq_true, gNotV_bl, Bool.not_true, Bool.not_false, g2I_int, g2I0_int, g1I_int, gLen_lst, gLen_tup, gInt_int, gMax2_int, gMin2_int, gIsN_non, gIsN_obj, gIsN_dT, gIsN_dK, gIsN_int, xsOf_lst, tsOf_tup, gIx_t0, gIx_t1, gIx_l0, gIx_l1, gIx_l2, iOf_int, gSlS_str, gCatS_str, gRepS_str, gFind_str, gEqA_int, gEqA_str, gEqA_bl, gTup, gLst, Option.isSome_some, Bool.false_xor, Bool.true_xor, gFor]
        exact hN
  · rw [List.length_map, sz]
    have := ok.len
    omega
  · have e1 : (o.map (·.1)).filterMap (fun k => if wantP o n k = true then some (rowT (k, lk0 o k - lk0 n k)) else none) = (((o.map (·.1)).filter (wantP o n)).map fun k => (k, lk0 o k - lk0 n k)).map rowT := by
      rw [List.map_map]
      have : ∀ l : List (List Str), l.filterMap (fun k => if wantP o n k = true then some (rowT (k, lk0 o k - lk0 n k)) else none) = (l.filter (wantP o n)).map (rowT ∘ fun k => (k, lk0 o k - lk0 n k)) := fun l => by
        induction l with
        | nil => rfl
        | cons k r ih =>
          rw [List.filterMap_cons, ih]
          cases q : wantP o n k with
          | true => rw [List.filter_cons_of_pos q]; rfl
          | false => rw [List.filter_cons_of_neg (by rw [q]; exact Bool.false_ne_true)]; rfl
      exact this _
    rw [e1]
    refine ⟨sort_rows fun r hr => ?_, ?_⟩
    · obtain ⟨k, hk, rfl⟩ := List.mem_map.mp hr
      obtain ⟨e, he, rfl⟩ := List.mem_map.mp (List.mem_filter.mp hk).1
      exact ok.way e he
    · have e2 : (((((o.map (·.1)).filter (wantP o n)).map fun k => (k, lk0 o k - lk0 n k)).map rowT).mergeSort leD) = (dueB o n).map rowT := (List.map_mergeSort (r := fun a b => leD (rowT a) (rowT b)) (s := leD) (f := rowT) fun _ _ _ _ => rfl).symm
      rw [e2]
      exact hR
abbrev s_Plan___init : Stmt := inClass (topS 3) 0
theorem sc_Plan___init : FnScope ["self", "cents", "table", "way"] ["self", "cents"] (defScope s_Plan___init) := ⟨rfl, rfl, rfl, by decide +kernel, rfl, by decide +kernel, by decide +kernel⟩
theorem ok_Plan___init {f : Addr} {fd : FuncData} {C_Plan : Addr} {dvs : List V} {kws : List (Str × V)} (F : FunD K "__init__" "Plan.__init__" (defArgs s_Plan___init) (defBody s_Plan___init) (defScope s_Plan___init) dvs kws f fd) (T : Bi mg) (K_Plan : KPlan K C_Plan) : FnOk P w K mg base CX0 1 f fd ["self", "cents"] (spM K 2 (.own 0) (w_Plan_init C_Plan)) := by
  refine FunD_okM F sc_Plan___init (fun _ _ _ h => by obtain ⟨_, _, e, _, _⟩ := h; rcases e with ⟨e, _⟩ | e <;> (rw [e]; rfl)) fun B cdv A outer s H E hr => ⟨_, (ds_cons (ds_setM 2 1 sc_Plan___init.nd rfl (by first | exact Or.inl rfl | exact Or.inr rfl) (by decide) (dm_of (de_dnewT 0)))
(ds_cons (ds_if (dt_isnot (de_v 1) (de_non (m := .rd)))
(ds_one (ds_setDcK (own := [("way", 3)]) 2 true (hr.u 1) rfl sc_Plan___init.nd rfl rfl (by decide) (sw_trueD rfl rfl rfl rfl) (de_v 1) (blk_of ["self", "cents", "table", "way"] (defScope s_Plan___init) rfl (by decide +kernel) (by decide +kernel) (by decide +kernel) (by decide +kernel)) (dgc_name 3 sc_Plan___init.nd rfl) (hol_cons rfl (fun _ _ => rfl) hol_nil) (fun _ _ _ _ _ => dts_one (dt_gt (de_dget (hr.u 1) (de_v 1) (de_v 3)) (de_int (m := .rd)))) (fun _ _ _ _ _ => (de_v 3)) (fun _ _ _ _ _ => (de_dget (hr.u 1) (de_v 1) (de_v 3)))))
ds_nil)
(ds_one (ds_fld 0 1 K_Plan.cl K_Plan.n_table (dm_take 2 1))))), fun s ds R ⟨t, e0, e, ok, hR⟩ => ?_⟩
  subst e0
  rcases e with ⟨e, rfl⟩ | e
  · subst e
    try simp only [ownLst, ownObj, mTake, mOf, fAndV, fOrV, fArgs, fCons, fNil, fVar_0, fVar_s, fUn, fBin, fBool, startE, envOf, slot, gSeq, frzE, gComp, gCompD, wipe_nil, wipe_cons, List.map_cons, List.map_nil, List.cons_append, List.nil_append, List.append_nil, true_and, and_true, List.set_cons_zero, List.set_cons_succ, List.length_cons, List.length_nil, List.replicate_succ, List.replicate_zero, Nat.reduceSub, Nat.reduceAdd, Nat.reduceLT, DEnds.fn, bOf_bl, eq_self, reduceIte, Bool.false_eq_true, gNotV_bl, Bool.not_true, Bool.not_false, g2I_int, g2I0_int, g1I_int, gLen_lst, gLen_tup, gInt_int, gMax2_int, gMin2_int, gIsN_non, gIsN_obj, gIsN_dT, gIsN_dK, gIsN_int, xsOf_lst, tsOf_tup, gIx_t0, gIx_t1, gIx_l0, gIx_l1, gIx_l2, iOf_int, gSlS_str, gCatS_str, gRepS_str, gFind_str, gEqA_int, gEqA_str, gEqA_bl, gTup, gLst, Option.isSome_some, Bool.false_xor, Bool.true_xor, gFor]
    try simp only [mTake, slot, ownObj, true_and, List.set_cons_zero, List.set_cons_succ]
    exact ⟨_, rfl, hR⟩
  · subst e
    try simp only [ownLst, ownObj, mTake, mOf, fAndV, fOrV, fArgs, fCons, fNil, fVar_0, fVar_s, fUn, fBin, fBool, startE, envOf, slot, gSeq, frzE, gComp, gCompD, wipe_nil, wipe_cons, List.map_cons, List.map_nil, List.cons_append, List.nil_append, List.append_nil, true_and, and_true, List.set_cons_zero, List.set_cons_succ, List.length_cons, List.length_nil, List.replicate_succ, List.replicate_zero, Nat.reduceSub, Nat.reduceAdd, Nat.reduceLT, DEnds.fn, bOf_bl, eq_self, reduceIte, Bool.false_eq_true, gNotV_bl, Bool.not_true, Bool.not_false, g2I_int, g2I0_int, g1I_int, gLen_lst, gLen_tup, gInt_int, gMax2_int, gMin2_int, gIsN_non, gIsN_obj, gIsN_dT, gIsN_dK, gIsN_int, xsOf_lst, tsOf_tup, gIx_t0, gIx_t1, gIx_l0, gIx_l1, gIx_l2, iOf_int, gSlS_str, gCatS_str, gRepS_str, gFind_str, gEqA_int, gEqA_str, gEqA_bl, gTup, gLst, Option.isSome_some, Bool.false_xor, Bool.true_xor, gFor]
    unfold tabD
    try simp only [ownLst, ownObj, mTake, mOf, fAndV, fOrV, fArgs, fCons, fNil, fVar_0, fVar_s, fUn, fBin, fBool, startE, envOf, slot, gSeq, frzE, gComp, gCompD, wipe_nil, wipe_cons, List.map_cons, List.map_nil, List.cons_append, List.nil_append, List.append_nil, true_and, and_true, List.set_cons_zero, List.set_cons_succ, List.length_cons, List.length_nil, List.replicate_succ, List.replicate_zero, Nat.reduceSub, Nat.reduceAdd, Nat.reduceLT, DEnds.fn, bOf_bl, eq_self, reduceIte, Bool.false_eq_true, gNotV_bl, Bool.not_true, Bool.not_false, g2I_int, g2I0_int, g1I_int, gLen_lst, gLen_tup, gInt_int, gMax2_int, gMin2_int, gIsN_non, gIsN_obj, gIsN_dT, gIsN_dK, gIsN_int, xsOf_lst, tsOf_tup, gIx_t0, gIx_t1, gIx_l0, gIx_l1, gIx_l2, iOf_int, gSlS_str, gCatS_str, gRepS_str, gFind_str, gEqA_int, gEqA_str, gEqA_bl, gTup, gLst, Option.isSome_some, Bool.false_xor, Bool.true_xor, gFor]
    refine ⟨_, keys_tab t, ?_⟩
    refine compDD_go (fun xs acc => ∃ dn rs, dn ++ rs = t ∧ xs = (rs.map (·.1)).map wayT ∧ acc = tabD (pos dn)) ?_ ?_ _ _ ⟨[], t, rfl, rfl, rfl⟩
    · rintro x r acc ⟨dn, rs, et, ex, rfl⟩ N hN
      cases rs with
      | nil => cases ex
      | cons e rs =>
        rw [List.map_cons, List.map_cons] at ex
        injection ex with ex1 ex2
        subst ex1
        have he : e ∈ t := by rw [← et]; simp
        have e0 : lk0 t e.1 = e.2 := by unfold lk0; rw [lk_at ok.nd he]; rfl
        have hk : e.1 ∈ t.map (·.1) := List.mem_map.mpr ⟨e, he, rfl⟩
        have et2 : (dn ++ [e]) ++ rs = t := by rw [← et]; simp
        refine ⟨_, rfl, ?_⟩
        try simp only [ownLst, ownObj, mTake, mOf, fAndV, fOrV, fArgs, fCons, fNil, fVar_0, fVar_s, fUn, fBin, fBool, startE, envOf, slot, gSeq, frzE, gComp, gCompD, wipe_nil, wipe_cons, List.map_cons, List.map_nil, List.cons_append, List.nil_append, List.append_nil, true_and, and_true, List.set_cons_zero, List.set_cons_succ, List.length_cons, List.length_nil, List.replicate_succ, List.replicate_zero, Nat.reduceSub, Nat.reduceAdd, Nat.reduceLT, DEnds.fn, bOf_bl, eq_self, reduceIte, Bool.false_eq_true, gNotV_bl, Bool.not_true, Bool.not_false, g2I_int, g2I0_int, g1I_int, gLen_lst, gLen_tup, gInt_int, gMax2_int, gMin2_int, gIsN_non, gIsN_obj, gIsN_dT, gIsN_dK, gIsN_int, xsOf_lst, tsOf_tup, gIx_t0, gIx_t1, gIx_l0, gIx_l1, gIx_l2, iOf_int, gSlS_str, gCatS_str, gRepS_str, gFind_str, gEqA_int, gEqA_str, gEqA_bl, gTup, gLst, Option.isSome_some, Bool.false_xor, Bool.true_xor, gFor]
        refine get_go hk ?_
        try simp only [ownLst, ownObj, mTake, mOf, fAndV, fOrV, fArgs, fCons, fNil, fVar_0, fVar_s, fUn, fBin, fBool, startE, envOf, slot, gSeq, frzE, gComp, gCompD, wipe_nil, wipe_cons, List.map_cons, List.map_nil, List.cons_append, List.nil_append, List.append_nil, true_and, and_true, List.set_cons_zero, List.set_cons_succ, List.length_cons, List.length_nil, List.replicate_succ, List.replicate_zero, Nat.reduceSub, Nat.reduceAdd, Nat.reduceLT, DEnds.fn, bOf_bl, eq_self, reduceIte, Bool.false_eq_true, gNotV_bl, Bool.not_true, Bool.not_false, g2I_int, g2I0_int, g1I_int, gLen_lst, gLen_tup, gInt_int, gMax2_int, gMin2_int, gIsN_non, gIsN_obj, gIsN_dT, gIsN_dK, gIsN_int, xsOf_lst, tsOf_tup, gIx_t0, gIx_t1, gIx_l0, gIx_l1, gIx_l2, iOf_int, gSlS_str, gCatS_str, gRepS_str, gFind_str, gEqA_int, gEqA_str, gEqA_bl, gTup, gLst, Option.isSome_some, Bool.false_xor, Bool.true_xor, gFor]
        rw [e0]
        by_cases c : 0 < e.2
        · rw [decide_eq_true c]
          try simp only [ownLst, ownObj, mTake, mOf, fAndV, fOrV, fArgs, fCons, fNil, fVar_0, fVar_s, fUn, fBin, fBool, startE, envOf, slot, gSeq, frzE, gComp, gCompD, wipe_nil, wipe_cons, List.map_cons, List.map_nil, List.cons_append, List.nil_append, List.append_nil, true_and, and_true, List.set_cons_zero, List.set_cons_succ, List.length_cons, List.length_nil, List.replicate_succ, List.replicate_zero, Nat.reduceSub, Nat.reduceAdd, Nat.reduceLT, DEnds.fn, bOf_bl, eq_self, reduceIte, Bool.false_eq_true, gNotV_bl, Bool.not_true, Bool.not_false, g2I_int, g2I0_int, g1I_int, gLen_lst, gLen_tup, gInt_int, gMax2_int, gMin2_int, gIsN_non, gIsN_obj, gIsN_dT, gIsN_dK, gIsN_int, xsOf_lst, tsOf_tup, gIx_t0, gIx_t1, gIx_l0, gIx_l1, gIx_l2, iOf_int, gSlS_str, gCatS_str, gRepS_str, gFind_str, gEqA_int, gEqA_str, gEqA_bl, gTup, gLst, Option.isSome_some, Bool.false_xor, Bool.true_xor, gFor]
          refine get_go hk ?_
          rw [e0]
          have hnew : e.1 ∉ (pos dn).map (·.1) := fun z => by
            have hn := ok.nd
            rw [← et, List.map_append, List.map_cons, List.nodup_append] at hn
            obtain ⟨x, hx, q⟩ := List.mem_map.mp z
            exact hn.2.2 e.1 (List.mem_map.mpr ⟨x, (List.mem_filter.mp hx).1, q⟩) e.1 List.mem_cons_self rfl
          have hsz : (pos dn).length < sizeLine := by
            have h1 : (pos dn).length ≤ dn.length := List.length_filter_le _ _
            have h2 := congrArg List.length et
            rw [List.length_append] at h2
            have := ok.len
            rw [sz]; omega
          refine ⟨_, putDD_tab hsz, hN _ ⟨dn ++ [e], rs, et2, ex2, ?_⟩⟩
          rw [putL_new hnew]
          unfold pos
          rw [List.filter_append, List.filter_cons_of_pos (by simpa using c)]; rfl
        · rw [decide_eq_false c]
          try simp only [ownLst, ownObj, mTake, mOf, fAndV, fOrV, fArgs, fCons, fNil, fVar_0, fVar_s, fUn, fBin, fBool, startE, envOf, slot, gSeq, frzE, gComp, gCompD, wipe_nil, wipe_cons, List.map_cons, List.map_nil, List.cons_append, List.nil_append, List.append_nil, true_and, and_true, List.set_cons_zero, List.set_cons_succ, List.length_cons, List.length_nil, List.replicate_succ, List.replicate_zero, Nat.reduceSub, Nat.reduceAdd, Nat.reduceLT, DEnds.fn, bOf_bl, eq_self, reduceIte, Bool.false_eq_true, gNotV_bl, Bool.not_true, Bool.not_false, g2I_int, g2I0_int, g1I_int, gLen_lst, gLen_tup, gInt_int, gMax2_int, gMin2_int, gIsN_non, gIsN_obj, gIsN_dT, gIsN_dK, gIsN_int, xsOf_lst, tsOf_tup, gIx_t0, gIx_t1, gIx_l0, gIx_l1, gIx_l2, iOf_int, gSlS_str, gCatS_str, gRepS_str, gFind_str, gEqA_int, gEqA_str, gEqA_bl, gTup, gLst, Option.isSome_some, Bool.false_xor, Bool.true_xor, gFor]
          refine hN _ ⟨dn ++ [e], rs, et2, ex2, ?_⟩
          unfold pos
          rw [List.filter_append, List.filter_cons_of_neg (by simpa using c), List.filter_nil, List.append_nil]
    · rintro acc ⟨dn, rs, et, ex, rfl⟩
      cases rs with
      | cons e rs => cases ex
      | nil =>
        rw [List.append_nil] at et
        subst et
        try simp only [ownLst, ownObj, mTake, mOf, fAndV, fOrV, fArgs, fCons, fNil, fVar_0, fVar_s, fUn, fBin, fBool, startE, envOf, slot, gSeq, frzE, gComp, gCompD, wipe_nil, wipe_cons, List.map_cons, List.map_nil, List.cons_append, List.nil_append, List.append_nil, true_and, and_true, List.set_cons_zero, List.set_cons_succ, List.length_cons, List.length_nil, List.replicate_succ, List.replicate_zero, Nat.reduceSub, Nat.reduceAdd, Nat.reduceLT, DEnds.fn, bOf_bl, eq_self, reduceIte, Bool.false_eq_true, gNotV_bl, Bool.not_true, Bool.not_false, g2I_int, g2I0_int, g1I_int, gLen_lst, gLen_tup, gInt_int, gMax2_int, gMin2_int, gIsN_non, gIsN_obj, gIsN_dT, gIsN_dK, gIsN_int, xsOf_lst, tsOf_tup, gIx_t0, gIx_t1, gIx_l0, gIx_l1, gIx_l2, iOf_int, gSlS_str, gCatS_str, gRepS_str, gFind_str, gEqA_int, gEqA_str, gEqA_bl, gTup, gLst, Option.isSome_some, Bool.false_xor, Bool.true_xor, gFor]
        try simp only [mTake, slot, ownObj, true_and, List.set_cons_zero, List.set_cons_succ]
        exact ⟨_, rfl, hR⟩
abbrev s_law_plan : Stmt := topS 15
theorem sc_law_plan : FnScope ["table", "cents", "way", "plan"] ["table"] (defScope s_law_plan) := ⟨rfl, rfl, rfl, by decide +kernel, rfl, by decide +kernel, by decide +kernel⟩
theorem ok_law_plan {f : Addr} {fd : FuncData} {C_Plan : Addr} (F : Fun K "_law_plan" "_law_plan" s_law_plan f fd) (T : Bi mg) (c_Plan : CalK P w K mg base "Plan" C_Plan 1 1 ["self", "cents"] (.own 0) [] (w_Plan_init C_Plan)) : FnOk P w K mg base CX0 3 f fd ["table"] (spD K (.own 0) (w_law_plan C_Plan)) := by
  refine Fun_okD F sc_law_plan (fun _ _ _ h => by obtain ⟨_, e, _, _⟩ := h; rw [e]; rfl) fun B cdv A outer s H E hr => ⟨_, (ds_cons (ds_setM 1 1 sc_law_plan.nd rfl (by first | exact Or.inl rfl | exact Or.inr rfl) (by decide) (dm_of (de_dnewT 0)))
(ds_cons (ds_forK PassesOwn.never rfl (de_v 0) (dg_name 2 sc_law_plan.nd rfl (by first | exact Or.inl rfl | exact Or.inr rfl) (by decide))
(ds_one (ds_putT 1 (hr.u 1) (dm_of (de_dget (hr.u 1) (de_v 0) (de_v 2))) (de_v 2))))
(ds_cons (ds_setM 3 0 sc_law_plan.nd rfl (by first | exact Or.inl rfl | exact Or.inr rfl) (by decide) (dm_of (de_frz (de_CkR c_Plan hr (da_cons (m := .rd) (de_rd (de_var 1 1)) da_nil)))))
(ds_cons (ds_forK PassesOwn.never rfl (de_v 0) (dg_name 2 sc_law_plan.nd rfl (by first | exact Or.inl rfl | exact Or.inr rfl) (by decide))
(ds_one (ds_putT 1 (hr.u 1) (dm_of (de_add (m := .own 0) (de_dget (hr.u 1) (de_v 0) (de_v 2)) (de_int (m := .rd)))) (de_v 2))))
(ds_one (ds_retM (dm_of (de_v 3)))))))), fun ds R ⟨t, e, ok, hR⟩ => ?_⟩
  subst e
  try simp only [ownLst, ownObj, mTake, mOf, fAndV, fOrV, fArgs, fCons, fNil, fVar_0, fVar_s, fUn, fBin, fBool, startE, envOf, slot, gSeq, frzE, gComp, gCompD, wipe_nil, wipe_cons, List.map_cons, List.map_nil, List.cons_append, List.nil_append, List.append_nil, true_and, and_true, List.set_cons_zero, List.set_cons_succ, List.length_cons, List.length_nil, List.replicate_succ, List.replicate_zero, Nat.reduceSub, Nat.reduceAdd, Nat.reduceLT, DEnds.fn, bOf_bl, eq_self, reduceIte, Bool.false_eq_true, gNotV_bl, Bool.not_true, Bool.not_false, g2I_int, g2I0_int, g1I_int, gLen_lst, gLen_tup, gInt_int, gMax2_int, gMin2_int, gIsN_non, gIsN_obj, gIsN_dT, gIsN_dK, gIsN_int, xsOf_lst, tsOf_tup, gIx_t0, gIx_t1, gIx_l0, gIx_l1, gIx_l2, iOf_int, gSlS_str, gCatS_str, gRepS_str, gFind_str, gEqA_int, gEqA_str, gEqA_bl, gTup, gLst, Option.isSome_some, Bool.false_xor, Bool.true_xor, gFor]
  refine ⟨_, keys_tab t, ?_⟩
  refine forD_go (fun xs ρ => ∃ (dn rs : List (List Str × Int)) (a b : Option (Nat × D)), dn ++ rs = t ∧ xs = (rs.map (·.1)).map wayT ∧ ρ = [some (0, tabD t), some (1, tabD dn), a, b]) ?_ ?_ _ _ ⟨[], t, none, none, rfl, rfl, rfl⟩
  · rintro x r ρ ⟨dn, rs, a, b, et, ex, rfl⟩ N hN
    cases rs with
    | nil => cases ex
    | cons e rs =>
      rw [List.map_cons, List.map_cons] at ex
      injection ex with ex1 ex2
      subst ex1
      have he : e ∈ t := by rw [← et]; simp
      have e0 : lk0 t e.1 = e.2 := by unfold lk0; rw [lk_at ok.nd he]; rfl
      have hk : e.1 ∈ t.map (·.1) := List.mem_map.mpr ⟨e, he, rfl⟩
      have et2 : (dn ++ [e]) ++ rs = t := by rw [← et]; simp
      refine ⟨_, rfl, ?_⟩
      try simp only [ownLst, ownObj, mTake, mOf, fAndV, fOrV, fArgs, fCons, fNil, fVar_0, fVar_s, fUn, fBin, fBool, startE, envOf, slot, gSeq, frzE, gComp, gCompD, wipe_nil, wipe_cons, List.map_cons, List.map_nil, List.cons_append, List.nil_append, List.append_nil, true_and, and_true, List.set_cons_zero, List.set_cons_succ, List.length_cons, List.length_nil, List.replicate_succ, List.replicate_zero, Nat.reduceSub, Nat.reduceAdd, Nat.reduceLT, DEnds.fn, bOf_bl, eq_self, reduceIte, Bool.false_eq_true, gNotV_bl, Bool.not_true, Bool.not_false, g2I_int, g2I0_int, g1I_int, gLen_lst, gLen_tup, gInt_int, gMax2_int, gMin2_int, gIsN_non, gIsN_obj, gIsN_dT, gIsN_dK, gIsN_int, xsOf_lst, tsOf_tup, gIx_t0, gIx_t1, gIx_l0, gIx_l1, gIx_l2, iOf_int, gSlS_str, gCatS_str, gRepS_str, gFind_str, gEqA_int, gEqA_str, gEqA_bl, gTup, gLst, Option.isSome_some, Bool.false_xor, Bool.true_xor, gFor]
      refine get_go hk ?_
      rw [e0]
      refine ⟨⟨rfl, trivial⟩, ?_⟩
      try simp only [ownLst, ownObj, mTake, mOf, fAndV, fOrV, fArgs, fCons, fNil, fVar_0, fVar_s, fUn, fBin, fBool, startE, envOf, slot, gSeq, frzE, gComp, gCompD, wipe_nil, wipe_cons, List.map_cons, List.map_nil, List.cons_append, List.nil_append, List.append_nil, true_and, and_true, List.set_cons_zero, List.set_cons_succ, List.length_cons, List.length_nil, List.replicate_succ, List.replicate_zero, Nat.reduceSub, Nat.reduceAdd, Nat.reduceLT, DEnds.fn, bOf_bl, eq_self, reduceIte, Bool.false_eq_true, gNotV_bl, Bool.not_true, Bool.not_false, g2I_int, g2I0_int, g1I_int, gLen_lst, gLen_tup, gInt_int, gMax2_int, gMin2_int, gIsN_non, gIsN_obj, gIsN_dT, gIsN_dK, gIsN_int, xsOf_lst, tsOf_tup, gIx_t0, gIx_t1, gIx_l0, gIx_l1, gIx_l2, iOf_int, gSlS_str, gCatS_str, gRepS_str, gFind_str, gEqA_int, gEqA_str, gEqA_bl, gTup, gLst, Option.isSome_some, Bool.false_xor, Bool.true_xor, gFor]
      refine ⟨_, keyT_way _, ?_⟩
      have hnew : e.1 ∉ dn.map (·.1) := fun z => by
        have hn := ok.nd
        rw [← et, List.map_append, List.map_cons, List.nodup_append] at hn
        exact hn.2.2 e.1 z e.1 List.mem_cons_self rfl
      have hsz : dn.length < sizeLine := by
        have h2 := congrArg List.length et
        rw [List.length_append] at h2
        have := ok.len
        rw [sz]; omega
      refine ⟨rfl, by unfold tabE; rw [List.length_map]; exact hsz, ?_⟩
      rw [put_tab, putL_new hnew]
      exact hN _ ⟨dn ++ [e], rs, _, _, et2, ex2, rfl⟩
  · rintro ρ ⟨dn, rs, a, b, et, ex, rfl⟩
    cases rs with
    | cons e rs => cases ex
    | nil =>
      rw [List.append_nil] at et
      subst et
      try simp only [ownLst, ownObj, mTake, mOf, fAndV, fOrV, fArgs, fCons, fNil, fVar_0, fVar_s, fUn, fBin, fBool, startE, envOf, slot, gSeq, frzE, gComp, gCompD, wipe_nil, wipe_cons, List.map_cons, List.map_nil, List.cons_append, List.nil_append, List.append_nil, true_and, and_true, List.set_cons_zero, List.set_cons_succ, List.length_cons, List.length_nil, List.replicate_succ, List.replicate_zero, Nat.reduceSub, Nat.reduceAdd, Nat.reduceLT, DEnds.fn, bOf_bl, eq_self, reduceIte, Bool.false_eq_true, gNotV_bl, Bool.not_true, Bool.not_false, g2I_int, g2I0_int, g1I_int, gLen_lst, gLen_tup, gInt_int, gMax2_int, gMin2_int, gIsN_non, gIsN_obj, gIsN_dT, gIsN_dK, gIsN_int, xsOf_lst, tsOf_tup, gIx_t0, gIx_t1, gIx_l0, gIx_l1, gIx_l2, iOf_int, gSlS_str, gCatS_str, gRepS_str, gFind_str, gEqA_int, gEqA_str, gEqA_bl, gTup, gLst, Option.isSome_some, Bool.false_xor, Bool.true_xor, gFor]
      refine ⟨dn, rfl, .inr rfl, ok, rfl, flat_plan, ?_⟩
      try simp only [ownLst, ownObj, mTake, mOf, fAndV, fOrV, fArgs, fCons, fNil, fVar_0, fVar_s, fUn, fBin, fBool, startE, envOf, slot, gSeq, frzE, gComp, gCompD, wipe_nil, wipe_cons, List.map_cons, List.map_nil, List.cons_append, List.nil_append, List.append_nil, true_and, and_true, List.set_cons_zero, List.set_cons_succ, List.length_cons, List.length_nil, List.replicate_succ, List.replicate_zero, Nat.reduceSub, Nat.reduceAdd, Nat.reduceLT, DEnds.fn, bOf_bl, eq_self, reduceIte, Bool.false_eq_true, gNotV_bl, Bool.not_true, Bool.not_false, g2I_int, g2I0_int, g1I_int, gLen_lst, gLen_tup, gInt_int, gMax2_int, gMin2_int, gIsN_non, gIsN_obj, gIsN_dT, gIsN_dK, gIsN_int, xsOf_lst, tsOf_tup, gIx_t0, gIx_t1, gIx_l0, gIx_l1, gIx_l2, iOf_int, gSlS_str, gCatS_str, gRepS_str, gFind_str, gEqA_int, gEqA_str, gEqA_bl, gTup, gLst, Option.isSome_some, Bool.false_xor, Bool.true_xor, gFor]
      refine ⟨_, keys_tab dn, ?_⟩
      refine forD_go (fun xs ρ => ∃ (es : List (List Str × Int)) (rs : List (List Str)) (a : Option (Nat × D)), es.map (·.1) = dn.map (·.1) ∧ xs = rs.map wayT ∧ (∀ k ∈ rs, k ∈ dn.map (·.1)) ∧ ρ = [some (0, tabD dn), some (1, tabD es), a, some (0, planD C_Plan (pos dn))]) ?_ ?_ _ _ ⟨dn, dn.map (·.1), _, rfl, rfl, fun k hk => hk, rfl⟩
      · rintro x r ρ ⟨es, rs, a, ek, ex, hrs, rfl⟩ N hN
        cases rs with
        | nil => cases ex
        | cons k rs =>
          rw [List.map_cons] at ex
          injection ex with ex1 ex2
          subst ex1
          have hk := hrs k List.mem_cons_self
          refine ⟨_, rfl, ?_⟩
          try simp only [ownLst, ownObj, mTake, mOf, fAndV, fOrV, fArgs, fCons, fNil, fVar_0, fVar_s, fUn, fBin, fBool, startE, envOf, slot, gSeq, frzE, gComp, gCompD, wipe_nil, wipe_cons, List.map_cons, List.map_nil, List.cons_append, List.nil_append, List.append_nil, true_and, and_true, List.set_cons_zero, List.set_cons_succ, List.length_cons, List.length_nil, List.replicate_succ, List.replicate_zero, Nat.reduceSub, Nat.reduceAdd, Nat.reduceLT, DEnds.fn, bOf_bl, eq_self, reduceIte, Bool.false_eq_true, gNotV_bl, Bool.not_true, Bool.not_false, g2I_int, g2I0_int, g1I_int, gLen_lst, gLen_tup, gInt_int, gMax2_int, gMin2_int, gIsN_non, gIsN_obj, gIsN_dT, gIsN_dK, gIsN_int, xsOf_lst, tsOf_tup, gIx_t0, gIx_t1, gIx_l0, gIx_l1, gIx_l2, iOf_int, gSlS_str, gCatS_str, gRepS_str, gFind_str, gEqA_int, gEqA_str, gEqA_bl, gTup, gLst, Option.isSome_some, Bool.false_xor, Bool.true_xor, gFor]
          refine get_go hk ?_
          try simp only [ownLst, ownObj, mTake, mOf, fAndV, fOrV, fArgs, fCons, fNil, fVar_0, fVar_s, fUn, fBin, fBool, startE, envOf, slot, gSeq, frzE, gComp, gCompD, wipe_nil, wipe_cons, List.map_cons, List.map_nil, List.cons_append, List.nil_append, List.append_nil, true_and, and_true, List.set_cons_zero, List.set_cons_succ, List.length_cons, List.length_nil, List.replicate_succ, List.replicate_zero, Nat.reduceSub, Nat.reduceAdd, Nat.reduceLT, DEnds.fn, bOf_bl, eq_self, reduceIte, Bool.false_eq_true, gNotV_bl, Bool.not_true, Bool.not_false, g2I_int, g2I0_int, g1I_int, gLen_lst, gLen_tup, gInt_int, gMax2_int, gMin2_int, gIsN_non, gIsN_obj, gIsN_dT, gIsN_dK, gIsN_int, xsOf_lst, tsOf_tup, gIx_t0, gIx_t1, gIx_l0, gIx_l1, gIx_l2, iOf_int, gSlS_str, gCatS_str, gRepS_str, gFind_str, gEqA_int, gEqA_str, gEqA_bl, gTup, gLst, Option.isSome_some, Bool.false_xor, Bool.true_xor, gFor]
          refine ⟨⟨rfl, trivial⟩, ?_⟩
          try simp only [ownLst, ownObj, mTake, mOf, fAndV, fOrV, fArgs, fCons, fNil, fVar_0, fVar_s, fUn, fBin, fBool, startE, envOf, slot, gSeq, frzE, gComp, gCompD, wipe_nil, wipe_cons, List.map_cons, List.map_nil, List.cons_append, List.nil_append, List.append_nil, true_and, and_true, List.set_cons_zero, List.set_cons_succ, List.length_cons, List.length_nil, List.replicate_succ, List.replicate_zero, Nat.reduceSub, Nat.reduceAdd, Nat.reduceLT, DEnds.fn, bOf_bl, eq_self, reduceIte, Bool.false_eq_true, gNotV_bl, Bool.not_true, Bool.not_false, g2I_int, g2I0_int, g1I_int, gLen_lst, gLen_tup, gInt_int, gMax2_int, gMin2_int, gIsN_non, gIsN_obj, gIsN_dT, gIsN_dK, gIsN_int, xsOf_lst, tsOf_tup, gIx_t0, gIx_t1, gIx_l0, gIx_l1, gIx_l2, iOf_int, gSlS_str, gCatS_str, gRepS_str, gFind_str, gEqA_int, gEqA_str, gEqA_bl, gTup, gLst, Option.isSome_some, Bool.false_xor, Bool.true_xor, gFor]
          refine ⟨_, keyT_way _, ?_⟩
          have hsz : es.length < sizeLine := by
            have h2 := congrArg List.length ek
            rw [List.length_map, List.length_map] at h2
            have := ok.len
            rw [sz]; omega
          refine ⟨rfl, by unfold tabE; rw [List.length_map]; exact hsz, ?_⟩
          rw [put_tab]
          exact hN _ ⟨_, rs, _, by rw [putL_keys, if_pos (by rw [ek]; exact hk)]; exact ek, ex2, fun k' hk' => hrs k' (List.mem_cons_of_mem _ hk'), rfl⟩
      · rintro ρ ⟨es, rs, a, ek, ex, hrs, rfl⟩
        try simp only [ownLst, ownObj, mTake, mOf, fAndV, fOrV, fArgs, fCons, fNil, fVar_0, fVar_s, fUn, fBin, fBool, startE, envOf, slot, gSeq, frzE, gComp, gCompD, wipe_nil, wipe_cons, List.map_cons, List.map_nil, List.cons_append, List.nil_append, List.append_nil, true_and, and_true, List.set_cons_zero, List.set_cons_succ, List.length_cons, List.length_nil, List.replicate_succ, List.replicate_zero, Nat.reduceSub, Nat.reduceAdd, Nat.reduceLT, DEnds.fn, bOf_bl, eq_self, reduceIte, Bool.false_eq_true, gNotV_bl, Bool.not_true, Bool.not_false, g2I_int, g2I0_int, g1I_int, gLen_lst, gLen_tup, gInt_int, gMax2_int, gMin2_int, gIsN_non, gIsN_obj, gIsN_dT, gIsN_dK, gIsN_int, xsOf_lst, tsOf_tup, gIx_t0, gIx_t1, gIx_l0, gIx_l1, gIx_l2, iOf_int, gSlS_str, gCatS_str, gRepS_str, gFind_str, gEqA_int, gEqA_str, gEqA_bl, gTup, gLst, Option.isSome_some, Bool.false_xor, Bool.true_xor, gFor]
        exact hR
abbrev s_law_cost : Stmt := topS 18
theorem sc_law_cost : FnScope ["old_plan", "new_plan", "paid_plan", "kind", "price"] ["old_plan", "new_plan", "paid_plan", "kind", "price"] (defScope s_law_cost) := ⟨rfl, rfl, rfl, by decide +kernel, rfl, by decide +kernel, by decide +kernel⟩
theorem ok_law_cost {f : Addr} {fd : FuncData} {C_Plan : Addr} (F : Fun K "_law_cost" "_law_cost" s_law_cost f fd) (T : Bi mg) (c_change_cost_2 : Cal P w K mg base "change_cost" 3 ["old", "new", "sent", "hard"] (.own 0) [.non, .int 5] (w_change_cost C_Plan)) (c_change_cost_k_hard : CalN P w K mg base "change_cost" 3 ["old", "new", "sent", "hard"] (.own 0) 2 ["hard"] (fun xs ys => xs ++ ([.non] ++ ys)) (w_change_cost C_Plan)) (c_change_cost_k_sent : CalN P w K mg base "change_cost" 3 ["old", "new", "sent", "hard"] (.own 0) 2 ["sent"] (fun xs ys => xs ++ (ys ++ [.int 5])) (w_change_cost C_Plan)) (c_change_cost_k_sent_hard : CalN P w K mg base "change_cost" 3 ["old", "new", "sent", "hard"] (.own 0) 2 ["sent", "hard"] (fun xs ys => xs ++ ys) (w_change_cost C_Plan)) : FnOk P w K mg base CX0 4 f fd ["old_plan", "new_plan", "paid_plan", "kind", "price"] (spD K (.own 0) (w_law_cost C_Plan)) := by
  refine Fun_okD F sc_law_cost (fun _ _ _ h => by obtain ⟨_, _, _, _, _, e, _, _, _, _⟩ := h; rw [e]; rfl) fun B cdv A outer s H E hr => ⟨_, (ds_cons (ds_if (dt_bool (dw_and (dt_eq (de_v 3) (de_int (m := .rd))) (dw_and1 (dt_eq (de_v 4) (de_int (m := .rd))))))
(ds_one (ds_retM (dm_of (de_C c_change_cost_2 hr (da_cons (m := .own 0) (de_v 0) (da_cons (m := .own 0) (de_v 1) da_nil))))))
ds_nil)
(ds_cons (ds_if (dt_eq (de_v 3) (de_int (m := .rd)))
(ds_one (ds_retM (dm_of (de_CN c_change_cost_k_hard hr (da_cons (m := .own 0) (de_v 0) (da_cons (m := .own 0) (de_v 1) da_nil)) (dk_cons (m := .own 0) (de_v 4) dk_nil)))))
ds_nil)
(ds_cons (ds_if (dt_eq (de_v 4) (de_int (m := .rd)))
(ds_one (ds_retM (dm_of (de_CN c_change_cost_k_sent hr (da_cons (m := .own 0) (de_v 0) (da_cons (m := .own 0) (de_v 1) da_nil)) (dk_cons (m := .own 0) (de_v 2) dk_nil)))))
ds_nil)
(ds_one (ds_retM (dm_of (de_CN c_change_cost_k_sent_hard hr (da_cons (m := .own 0) (de_v 0) (da_cons (m := .own 0) (de_v 1) da_nil)) (dk_cons (m := .own 0) (de_v 2) (dk_cons (m := .own 0) (de_v 4) dk_nil))))))))), fun ds R ⟨o, n, s, kind, price, e, ok, h1, h2, hR⟩ => ?_⟩
  subst e
  try simp only [ownLst, ownObj, mTake, mOf, fAndV, fOrV, fArgs, fCons, fNil, fVar_0, fVar_s, fUn, fBin, fBool, startE, envOf, slot, gSeq, frzE, gComp, gCompD, wipe_nil, wipe_cons, List.map_cons, List.map_nil, List.cons_append, List.nil_append, List.append_nil, true_and, and_true, List.set_cons_zero, List.set_cons_succ, List.length_cons, List.length_nil, List.replicate_succ, List.replicate_zero, Nat.reduceSub, Nat.reduceAdd, Nat.reduceLT, DEnds.fn, bOf_bl, eq_self, reduceIte, Bool.false_eq_true, gNotV_bl, Bool.not_true, Bool.not_false, g2I_int, g2I0_int, g1I_int, gLen_lst, gLen_tup, gInt_int, gMax2_int, gMin2_int, gIsN_non, gIsN_obj, gIsN_dT, gIsN_dK, gIsN_int, xsOf_lst, tsOf_tup, gIx_t0, gIx_t1, gIx_l0, gIx_l1, gIx_l2, iOf_int, gSlS_str, gCatS_str, gRepS_str, gFind_str, gEqA_int, gEqA_str, gEqA_bl, gTup, gLst, Option.isSome_some, Bool.false_xor, Bool.true_xor, gFor]
  by_cases hk : kind = 0
  · subst hk
    rw [if_pos rfl] at hR
    rw [decide_eq_true rfl]
    try simp only [ownLst, ownObj, mTake, mOf, fAndV, fOrV, fArgs, fCons, fNil, fVar_0, fVar_s, fUn, fBin, fBool, startE, envOf, slot, gSeq, frzE, gComp, gCompD, wipe_nil, wipe_cons, List.map_cons, List.map_nil, List.cons_append, List.nil_append, List.append_nil, true_and, and_true, List.set_cons_zero, List.set_cons_succ, List.length_cons, List.length_nil, List.replicate_succ, List.replicate_zero, Nat.reduceSub, Nat.reduceAdd, Nat.reduceLT, DEnds.fn, bOf_bl, eq_self, reduceIte, Bool.false_eq_true, gNotV_bl, Bool.not_true, Bool.not_false, g2I_int, g2I0_int, g1I_int, gLen_lst, gLen_tup, gInt_int, gMax2_int, gMin2_int, gIsN_non, gIsN_obj, gIsN_dT, gIsN_dK, gIsN_int, xsOf_lst, tsOf_tup, gIx_t0, gIx_t1, gIx_l0, gIx_l1, gIx_l2, iOf_int, gSlS_str, gCatS_str, gRepS_str, gFind_str, gEqA_int, gEqA_str, gEqA_bl, gTup, gLst, Option.isSome_some, Bool.false_xor, Bool.true_xor, gFor]
    by_cases hp : price = 0
    · subst hp
      rw [if_pos rfl] at hR
      rw [decide_eq_true rfl]
      try simp only [ownLst, ownObj, mTake, mOf, fAndV, fOrV, fArgs, fCons, fNil, fVar_0, fVar_s, fUn, fBin, fBool, startE, envOf, slot, gSeq, frzE, gComp, gCompD, wipe_nil, wipe_cons, List.map_cons, List.map_nil, List.cons_append, List.nil_append, List.append_nil, true_and, and_true, List.set_cons_zero, List.set_cons_succ, List.length_cons, List.length_nil, List.replicate_succ, List.replicate_zero, Nat.reduceSub, Nat.reduceAdd, Nat.reduceLT, DEnds.fn, bOf_bl, eq_self, reduceIte, Bool.false_eq_true, gNotV_bl, Bool.not_true, Bool.not_false, g2I_int, g2I0_int, g1I_int, gLen_lst, gLen_tup, gInt_int, gMax2_int, gMin2_int, gIsN_non, gIsN_obj, gIsN_dT, gIsN_dK, gIsN_int, xsOf_lst, tsOf_tup, gIx_t0, gIx_t1, gIx_l0, gIx_l1, gIx_l2, iOf_int, gSlS_str, gCatS_str, gRepS_str, gFind_str, gEqA_int, gEqA_str, gEqA_bl, gTup, gLst, Option.isSome_some, Bool.false_xor, Bool.true_xor, gFor]
      exact ⟨o, n, none, 5, rfl, ok, by decide, by decide, hR⟩
    · rw [if_neg hp] at hR
      rw [decide_eq_false hp]
      try simp only [ownLst, ownObj, mTake, mOf, fAndV, fOrV, fArgs, fCons, fNil, fVar_0, fVar_s, fUn, fBin, fBool, startE, envOf, slot, gSeq, frzE, gComp, gCompD, wipe_nil, wipe_cons, List.map_cons, List.map_nil, List.cons_append, List.nil_append, List.append_nil, true_and, and_true, List.set_cons_zero, List.set_cons_succ, List.length_cons, List.length_nil, List.replicate_succ, List.replicate_zero, Nat.reduceSub, Nat.reduceAdd, Nat.reduceLT, DEnds.fn, bOf_bl, eq_self, reduceIte, Bool.false_eq_true, gNotV_bl, Bool.not_true, Bool.not_false, g2I_int, g2I0_int, g1I_int, gLen_lst, gLen_tup, gInt_int, gMax2_int, gMin2_int, gIsN_non, gIsN_obj, gIsN_dT, gIsN_dK, gIsN_int, xsOf_lst, tsOf_tup, gIx_t0, gIx_t1, gIx_l0, gIx_l1, gIx_l2, iOf_int, gSlS_str, gCatS_str, gRepS_str, gFind_str, gEqA_int, gEqA_str, gEqA_bl, gTup, gLst, Option.isSome_some, Bool.false_xor, Bool.true_xor, gFor]
      exact ⟨o, n, none, price, rfl, ok, by omega, by omega, hR⟩
  · rw [if_neg hk] at hR
    rw [decide_eq_false hk]
    try simp only [ownLst, ownObj, mTake, mOf, fAndV, fOrV, fArgs, fCons, fNil, fVar_0, fVar_s, fUn, fBin, fBool, startE, envOf, slot, gSeq, frzE, gComp, gCompD, wipe_nil, wipe_cons, List.map_cons, List.map_nil, List.cons_append, List.nil_append, List.append_nil, true_and, and_true, List.set_cons_zero, List.set_cons_succ, List.length_cons, List.length_nil, List.replicate_succ, List.replicate_zero, Nat.reduceSub, Nat.reduceAdd, Nat.reduceLT, DEnds.fn, bOf_bl, eq_self, reduceIte, Bool.false_eq_true, gNotV_bl, Bool.not_true, Bool.not_false, g2I_int, g2I0_int, g1I_int, gLen_lst, gLen_tup, gInt_int, gMax2_int, gMin2_int, gIsN_non, gIsN_obj, gIsN_dT, gIsN_dK, gIsN_int, xsOf_lst, tsOf_tup, gIx_t0, gIx_t1, gIx_l0, gIx_l1, gIx_l2, iOf_int, gSlS_str, gCatS_str, gRepS_str, gFind_str, gEqA_int, gEqA_str, gEqA_bl, gTup, gLst, Option.isSome_some, Bool.false_xor, Bool.true_xor, gFor]
    by_cases hp : price = 0
    · subst hp
      rw [if_pos rfl] at hR
      rw [decide_eq_true rfl]
      try simp only [ownLst, ownObj, mTake, mOf, fAndV, fOrV, fArgs, fCons, fNil, fVar_0, fVar_s, fUn, fBin, fBool, startE, envOf, slot, gSeq, frzE, gComp, gCompD, wipe_nil, wipe_cons, List.map_cons, List.map_nil, List.cons_append, List.nil_append, List.append_nil, true_and, and_true, List.set_cons_zero, List.set_cons_succ, List.length_cons, List.length_nil, List.replicate_succ, List.replicate_zero, Nat.reduceSub, Nat.reduceAdd, Nat.reduceLT, DEnds.fn, bOf_bl, eq_self, reduceIte, Bool.false_eq_true, gNotV_bl, Bool.not_true, Bool.not_false, g2I_int, g2I0_int, g1I_int, gLen_lst, gLen_tup, gInt_int, gMax2_int, gMin2_int, gIsN_non, gIsN_obj, gIsN_dT, gIsN_dK, gIsN_int, xsOf_lst, tsOf_tup, gIx_t0, gIx_t1, gIx_l0, gIx_l1, gIx_l2, iOf_int, gSlS_str, gCatS_str, gRepS_str, gFind_str, gEqA_int, gEqA_str, gEqA_bl, gTup, gLst, Option.isSome_some, Bool.false_xor, Bool.true_xor, gFor]
      exact ⟨o, n, s, 5, rfl, ok, by decide, by decide, hR⟩
    · rw [if_neg hp] at hR
      rw [decide_eq_false hp]
      try simp only [ownLst, ownObj, mTake, mOf, fAndV, fOrV, fArgs, fCons, fNil, fVar_0, fVar_s, fUn, fBin, fBool, startE, envOf, slot, gSeq, frzE, gComp, gCompD, wipe_nil, wipe_cons, List.map_cons, List.map_nil, List.cons_append, List.nil_append, List.append_nil, true_and, and_true, List.set_cons_zero, List.set_cons_succ, List.length_cons, List.length_nil, List.replicate_succ, List.replicate_zero, Nat.reduceSub, Nat.reduceAdd, Nat.reduceLT, DEnds.fn, bOf_bl, eq_self, reduceIte, Bool.false_eq_true, gNotV_bl, Bool.not_true, Bool.not_false, g2I_int, g2I0_int, g1I_int, gLen_lst, gLen_tup, gInt_int, gMax2_int, gMin2_int, gIsN_non, gIsN_obj, gIsN_dT, gIsN_dK, gIsN_int, xsOf_lst, tsOf_tup, gIx_t0, gIx_t1, gIx_l0, gIx_l1, gIx_l2, iOf_int, gSlS_str, gCatS_str, gRepS_str, gFind_str, gEqA_int, gEqA_str, gEqA_bl, gTup, gLst, Option.isSome_some, Bool.false_xor, Bool.true_xor, gFor]
      exact ⟨o, n, s, price, rfl, ok, by omega, by omega, hR⟩
abbrev s_law_same : Stmt := topS 20
theorem sc_law_same : FnScope ["told", "due", "k", "row"] ["told", "due"] (defScope s_law_same) := ⟨rfl, rfl, rfl, by decide +kernel, rfl, by decide +kernel, by decide +kernel⟩
theorem ok_law_same {f : Addr} {fd : FuncData} (F : Fun K "_law_same" "_law_same" s_law_same f fd) (T : Bi mg)  : FnOk P w K mg base CX0 1 f fd ["told", "due"] (spD K (.own 0) w_law_same) := by
  refine Fun_okD F sc_law_same (fun _ _ _ h => by obtain ⟨_, _, e, _, _, _, _⟩ := h; rw [e]; rfl) fun B cdv A outer s H E hr => ⟨_, (ds_cons (ds_if (dt_bool (dw_or (dt_not (dt_val (de_isi (m := .rd) T.isinstance_ (de_v 0) (de_ty (m := .rd) (T := "list") rfl T.list_ (by decide +kernel))))) (dw_or1 (dt_ne (de_len (m := .rd) T.len_ (de_v 0)) (de_len (m := .rd) T.len_ (de_v 1))))))
(ds_one (ds_retM (dm_of (de_bl (m := .own 0)))))
ds_nil)
(ds_cons (ds_for PassesOwn.never rfl (di_range T.range_ (de_len (m := .rd) T.len_ (de_v 1))) (dg_name 2 sc_law_same.nd rfl (by first | exact Or.inl rfl | exact Or.inr rfl) (by decide))
(ds_cons (ds_setM 3 0 sc_law_same.nd rfl (by first | exact Or.inl rfl | exact Or.inr rfl) (by decide) (dm_of (de_at (de_v 0) (de_v 2))))
(ds_cons (ds_if (dt_bool (dw_or (dt_not (dt_val (de_isi (m := .rd) T.isinstance_ (de_v 3) (de_ty (m := .rd) (T := "tuple") rfl T.tuple_ (by decide +kernel))))) (dw_or (dt_ne (de_len (m := .rd) T.len_ (de_v 3)) (de_int (m := .rd))) (dw_or1 (dt_not (dt_val (de_isi (m := .rd) T.isinstance_ (de_at (de_v 3) (de_int (m := .rd))) (de_ty (m := .rd) (T := "tuple") rfl T.tuple_ (by decide +kernel)))))))))
(ds_one (ds_retM (dm_of (de_bl (m := .own 0)))))
ds_nil)
(ds_one (ds_if (dt_bool (dw_or (dt_not (dt_val (de_isi (m := .rd) T.isinstance_ (de_at (de_v 3) (de_int (m := .rd))) (de_ty (m := .rd) (T := "int") rfl T.int_ (by decide +kernel))))) (dw_or (dt_val (de_isi (m := .rd) T.isinstance_ (de_at (de_v 3) (de_int (m := .rd))) (de_ty (m := .rd) (T := "bool") rfl T.bool_ (by decide +kernel)))) (dw_or1 (dt_neD (hr.u 64) (de_v 3) (de_at (de_v 1) (de_v 2)))))))
(ds_one (ds_retM (dm_of (de_bl (m := .own 0)))))
ds_nil)))))
(ds_one (ds_retM (dm_of (de_bl (m := .own 0))))))), fun ds R ⟨a, b, e, oka, okb, hb, hR⟩ => ?_⟩
  subst e
  try simp only [ownLst, ownObj, mTake, mOf, fAndV, fOrV, fArgs, fCons, fNil, fVar_0, fVar_s, fUn, fBin, fBool, startE, envOf, slot, gSeq, frzE, gComp, gCompD, wipe_nil, wipe_cons, List.map_cons, List.map_nil, List.cons_append, List.nil_append, List.append_nil, true_and, and_true, List.set_cons_zero, List.set_cons_succ, List.length_cons, List.length_nil, List.replicate_succ, List.replicate_zero, Nat.reduceSub, Nat.reduceAdd, Nat.reduceLT, DEnds.fn, bOf_bl, eq_self, reduceIte, Bool.false_eq_true, gNotV_bl, Bool.not_true, Bool.not_false, g2I_int, g2I0_int, g1I_int, gLen_lst, gLen_tup, gInt_int, gMax2_int, gMin2_int, gIsN_non, gIsN_obj, gIsN_dT, gIsN_dK, gIsN_int, xsOf_lst, tsOf_tup, gIx_t0, gIx_t1, gIx_l0, gIx_l1, gIx_l2, iOf_int, gSlS_str, gCatS_str, gRepS_str, gFind_str, gEqA_int, gEqA_str, gEqA_bl, gTup, gLst, Option.isSome_some, Bool.false_xor, Bool.true_xor, gFor]
  refine gIsi_go (a := "list") (b := true) rfl rfl (fun _ _ e => by cases e) ?_
  try simp only [ownLst, ownObj, mTake, mOf, fAndV, fOrV, fArgs, fCons, fNil, fVar_0, fVar_s, fUn, fBin, fBool, startE, envOf, slot, gSeq, frzE, gComp, gCompD, wipe_nil, wipe_cons, List.map_cons, List.map_nil, List.cons_append, List.nil_append, List.append_nil, true_and, and_true, List.set_cons_zero, List.set_cons_succ, List.length_cons, List.length_nil, List.replicate_succ, List.replicate_zero, Nat.reduceSub, Nat.reduceAdd, Nat.reduceLT, DEnds.fn, bOf_bl, eq_self, reduceIte, Bool.false_eq_true, gNotV_bl, Bool.not_true, Bool.not_false, g2I_int, g2I0_int, g1I_int, gLen_lst, gLen_tup, gInt_int, gMax2_int, gMin2_int, gIsN_non, gIsN_obj, gIsN_dT, gIsN_dK, gIsN_int, xsOf_lst, tsOf_tup, gIx_t0, gIx_t1, gIx_l0, gIx_l1, gIx_l2, iOf_int, gSlS_str, gCatS_str, gRepS_str, gFind_str, gEqA_int, gEqA_str, gEqA_bl, gTup, gLst, Option.isSome_some, Bool.false_xor, Bool.true_xor, gFor]
  rw [List.length_map, List.length_map]
  by_cases hl : a.length = b.length
  · rw [decide_eq_true (by rw [hl])]
    try simp only [ownLst, ownObj, mTake, mOf, fAndV, fOrV, fArgs, fCons, fNil, fVar_0, fVar_s, fUn, fBin, fBool, startE, envOf, slot, gSeq, frzE, gComp, gCompD, wipe_nil, wipe_cons, List.map_cons, List.map_nil, List.cons_append, List.nil_append, List.append_nil, true_and, and_true, List.set_cons_zero, List.set_cons_succ, List.length_cons, List.length_nil, List.replicate_succ, List.replicate_zero, Nat.reduceSub, Nat.reduceAdd, Nat.reduceLT, DEnds.fn, bOf_bl, eq_self, reduceIte, Bool.false_eq_true, gNotV_bl, Bool.not_true, Bool.not_false, g2I_int, g2I0_int, g1I_int, gLen_lst, gLen_tup, gInt_int, gMax2_int, gMin2_int, gIsN_non, gIsN_obj, gIsN_dT, gIsN_dK, gIsN_int, xsOf_lst, tsOf_tup, gIx_t0, gIx_t1, gIx_l0, gIx_l1, gIx_l2, iOf_int, gSlS_str, gCatS_str, gRepS_str, gFind_str, gEqA_int, gEqA_str, gEqA_bl, gTup, gLst, Option.isSome_some, Bool.false_xor, Bool.true_xor, gFor]
    refine ⟨by omega, by omega, ?_⟩
    have en : (((b.length : Nat) : Int)).toNat = b.length := by omega
    rw [en]
    refine forD_go (fun xs ρ => ∃ (i : Nat) (p q : Option (Nat × D)), i ≤ b.length ∧ xs = ((List.range b.length).drop i).map (fun j : Nat => D.int (0 + (j : Int))) ∧ a.take i = b.take i ∧ ρ = [some (0, .lst (a.map rowT)), some (0, .lst (b.map rowT)), p, q]) ?_ ?_ _ _ ⟨0, none, none, Nat.zero_le _, rfl, by rw [List.take_zero, List.take_zero], rfl⟩
    · rintro x r ρ ⟨i, p, q, hi, ex, ht, rfl⟩ N hN
      by_cases hlt : i < b.length
      · have hd : (List.range b.length).drop i = i :: (List.range b.length).drop (i + 1) := by
          rw [List.drop_eq_getElem_cons (by rw [List.length_range]; exact hlt), List.getElem_range]
        rw [hd, List.map_cons] at ex
        injection ex with ex1 ex2
        subst ex1
        refine ⟨_, rfl, ?_⟩
        have ei : (0 : Int) + (i : Int) = (i : Int) := by omega
        rw [ei]
        try simp only [ownLst, ownObj, mTake, mOf, fAndV, fOrV, fArgs, fCons, fNil, fVar_0, fVar_s, fUn, fBin, fBool, startE, envOf, slot, gSeq, frzE, gComp, gCompD, wipe_nil, wipe_cons, List.map_cons, List.map_nil, List.cons_append, List.nil_append, List.append_nil, true_and, and_true, List.set_cons_zero, List.set_cons_succ, List.length_cons, List.length_nil, List.replicate_succ, List.replicate_zero, Nat.reduceSub, Nat.reduceAdd, Nat.reduceLT, DEnds.fn, bOf_bl, eq_self, reduceIte, Bool.false_eq_true, gNotV_bl, Bool.not_true, Bool.not_false, g2I_int, g2I0_int, g1I_int, gLen_lst, gLen_tup, gInt_int, gMax2_int, gMin2_int, gIsN_non, gIsN_obj, gIsN_dT, gIsN_dK, gIsN_int, xsOf_lst, tsOf_tup, gIx_t0, gIx_t1, gIx_l0, gIx_l1, gIx_l2, iOf_int, gSlS_str, gCatS_str, gRepS_str, gFind_str, gEqA_int, gEqA_str, gEqA_bl, gTup, gLst, Option.isSome_some, Bool.false_xor, Bool.true_xor, gFor]
        have ha : a[i]? = some a[i] := List.getElem?_eq_getElem (by omega)
        have hbi : b[i]? = some b[i] := List.getElem?_eq_getElem hlt
        have oa := oka a[i] (List.getElem_mem _)
        have ob := okb b[i] (List.getElem_mem _)
        refine gIx_nat (d := rowT a[i]) (by rw [List.getElem?_map, ha]; rfl) ?_
        try simp only [ownLst, ownObj, mTake, mOf, fAndV, fOrV, fArgs, fCons, fNil, fVar_0, fVar_s, fUn, fBin, fBool, startE, envOf, slot, gSeq, frzE, gComp, gCompD, wipe_nil, wipe_cons, List.map_cons, List.map_nil, List.cons_append, List.nil_append, List.append_nil, true_and, and_true, List.set_cons_zero, List.set_cons_succ, List.length_cons, List.length_nil, List.replicate_succ, List.replicate_zero, Nat.reduceSub, Nat.reduceAdd, Nat.reduceLT, DEnds.fn, bOf_bl, eq_self, reduceIte, Bool.false_eq_true, gNotV_bl, Bool.not_true, Bool.not_false, g2I_int, g2I0_int, g1I_int, gLen_lst, gLen_tup, gInt_int, gMax2_int, gMin2_int, gIsN_non, gIsN_obj, gIsN_dT, gIsN_dK, gIsN_int, xsOf_lst, tsOf_tup, gIx_t0, gIx_t1, gIx_l0, gIx_l1, gIx_l2, iOf_int, gSlS_str, gCatS_str, gRepS_str, gFind_str, gEqA_int, gEqA_str, gEqA_bl, gTup, gLst, Option.isSome_some, Bool.false_xor, Bool.true_xor, gFor]
        refine gIsi_go (a := "tuple") (b := true) rfl rfl (fun _ _ e => by cases e) ?_
        unfold rowT
        try simp only [ownLst, ownObj, mTake, mOf, fAndV, fOrV, fArgs, fCons, fNil, fVar_0, fVar_s, fUn, fBin, fBool, startE, envOf, slot, gSeq, frzE, gComp, gCompD, wipe_nil, wipe_cons, List.map_cons, List.map_nil, List.cons_append, List.nil_append, List.append_nil, true_and, and_true, List.set_cons_zero, List.set_cons_succ, List.length_cons, List.length_nil, List.replicate_succ, List.replicate_zero, Nat.reduceSub, Nat.reduceAdd, Nat.reduceLT, DEnds.fn, bOf_bl, eq_self, reduceIte, Bool.false_eq_true, gNotV_bl, Bool.not_true, Bool.not_false, g2I_int, g2I0_int, g1I_int, gLen_lst, gLen_tup, gInt_int, gMax2_int, gMin2_int, gIsN_non, gIsN_obj, gIsN_dT, gIsN_dK, gIsN_int, xsOf_lst, tsOf_tup, gIx_t0, gIx_t1, gIx_l0, gIx_l1, gIx_l2, iOf_int, gSlS_str, gCatS_str, gRepS_str, gFind_str, gEqA_int, gEqA_str, gEqA_bl, gTup, gLst, Option.isSome_some, Bool.false_xor, Bool.true_xor, gFor]
        rw [decide_eq_true (by rfl)]
        try simp only [ownLst, ownObj, mTake, mOf, fAndV, fOrV, fArgs, fCons, fNil, fVar_0, fVar_s, fUn, fBin, fBool, startE, envOf, slot, gSeq, frzE, gComp, gCompD, wipe_nil, wipe_cons, List.map_cons, List.map_nil, List.cons_append, List.nil_append, List.append_nil, true_and, and_true, List.set_cons_zero, List.set_cons_succ, List.length_cons, List.length_nil, List.replicate_succ, List.replicate_zero, Nat.reduceSub, Nat.reduceAdd, Nat.reduceLT, DEnds.fn, bOf_bl, eq_self, reduceIte, Bool.false_eq_true, gNotV_bl, Bool.not_true, Bool.not_false, g2I_int, g2I0_int, g1I_int, gLen_lst, gLen_tup, gInt_int, gMax2_int, gMin2_int, gIsN_non, gIsN_obj, gIsN_dT, gIsN_dK, gIsN_int, xsOf_lst, tsOf_tup, gIx_t0, gIx_t1, gIx_l0, gIx_l1, gIx_l2, iOf_int, gSlS_str, gCatS_str, gRepS_str, gFind_str, gEqA_int, gEqA_str, gEqA_bl, gTup, gLst, Option.isSome_some, Bool.false_xor, Bool.true_xor, gFor]
        refine gIsi_go (a := "tuple") (b := true) rfl rfl (fun _ _ e => by cases e) ?_
        try simp only [ownLst, ownObj, mTake, mOf, fAndV, fOrV, fArgs, fCons, fNil, fVar_0, fVar_s, fUn, fBin, fBool, startE, envOf, slot, gSeq, frzE, gComp, gCompD, wipe_nil, wipe_cons, List.map_cons, List.map_nil, List.cons_append, List.nil_append, List.append_nil, true_and, and_true, List.set_cons_zero, List.set_cons_succ, List.length_cons, List.length_nil, List.replicate_succ, List.replicate_zero, Nat.reduceSub, Nat.reduceAdd, Nat.reduceLT, DEnds.fn, bOf_bl, eq_self, reduceIte, Bool.false_eq_true, gNotV_bl, Bool.not_true, Bool.not_false, g2I_int, g2I0_int, g1I_int, gLen_lst, gLen_tup, gInt_int, gMax2_int, gMin2_int, gIsN_non, gIsN_obj, gIsN_dT, gIsN_dK, gIsN_int, xsOf_lst, tsOf_tup, gIx_t0, gIx_t1, gIx_l0, gIx_l1, gIx_l2, iOf_int, gSlS_str, gCatS_str, gRepS_str, gFind_str, gEqA_int, gEqA_str, gEqA_bl, gTup, gLst, Option.isSome_some, Bool.false_xor, Bool.true_xor, gFor]
        refine gIsi_go (a := "int") (b := true) rfl rfl (fun _ _ e => by cases e) ?_
        try simp only [ownLst, ownObj, mTake, mOf, fAndV, fOrV, fArgs, fCons, fNil, fVar_0, fVar_s, fUn, fBin, fBool, startE, envOf, slot, gSeq, frzE, gComp, gCompD, wipe_nil, wipe_cons, List.map_cons, List.map_nil, List.cons_append, List.nil_append, List.append_nil, true_and, and_true, List.set_cons_zero, List.set_cons_succ, List.length_cons, List.length_nil, List.replicate_succ, List.replicate_zero, Nat.reduceSub, Nat.reduceAdd, Nat.reduceLT, DEnds.fn, bOf_bl, eq_self, reduceIte, Bool.false_eq_true, gNotV_bl, Bool.not_true, Bool.not_false, g2I_int, g2I0_int, g1I_int, gLen_lst, gLen_tup, gInt_int, gMax2_int, gMin2_int, gIsN_non, gIsN_obj, gIsN_dT, gIsN_dK, gIsN_int, xsOf_lst, tsOf_tup, gIx_t0, gIx_t1, gIx_l0, gIx_l1, gIx_l2, iOf_int, gSlS_str, gCatS_str, gRepS_str, gFind_str, gEqA_int, gEqA_str, gEqA_bl, gTup, gLst, Option.isSome_some, Bool.false_xor, Bool.true_xor, gFor]
        refine gIsi_go (a := "int") (b := false) rfl rfl (fun _ _ e => by cases e) ?_
        try simp only [ownLst, ownObj, mTake, mOf, fAndV, fOrV, fArgs, fCons, fNil, fVar_0, fVar_s, fUn, fBin, fBool, startE, envOf, slot, gSeq, frzE, gComp, gCompD, wipe_nil, wipe_cons, List.map_cons, List.map_nil, List.cons_append, List.nil_append, List.append_nil, true_and, and_true, List.set_cons_zero, List.set_cons_succ, List.length_cons, List.length_nil, List.replicate_succ, List.replicate_zero, Nat.reduceSub, Nat.reduceAdd, Nat.reduceLT, DEnds.fn, bOf_bl, eq_self, reduceIte, Bool.false_eq_true, gNotV_bl, Bool.not_true, Bool.not_false, g2I_int, g2I0_int, g1I_int, gLen_lst, gLen_tup, gInt_int, gMax2_int, gMin2_int, gIsN_non, gIsN_obj, gIsN_dT, gIsN_dK, gIsN_int, xsOf_lst, tsOf_tup, gIx_t0, gIx_t1, gIx_l0, gIx_l1, gIx_l2, iOf_int, gSlS_str, gCatS_str, gRepS_str, gFind_str, gEqA_int, gEqA_str, gEqA_bl, gTup, gLst, Option.isSome_some, Bool.false_xor, Bool.true_xor, gFor]
        refine gIx_nat (d := rowT b[i]) (by rw [List.getElem?_map, hbi]; rfl) ?_
        refine ⟨okD_row (n := 58) oa.2, okD_row (n := 58) ob.2, ?_⟩
        rw [show eqvD (.tup [wayT a[i].1, .int a[i].2]) (rowT b[i]) = decide (a[i] = b[i]) from eqv_row a[i] b[i]]
        try simp only [ownLst, ownObj, mTake, mOf, fAndV, fOrV, fArgs, fCons, fNil, fVar_0, fVar_s, fUn, fBin, fBool, startE, envOf, slot, gSeq, frzE, gComp, gCompD, wipe_nil, wipe_cons, List.map_cons, List.map_nil, List.cons_append, List.nil_append, List.append_nil, true_and, and_true, List.set_cons_zero, List.set_cons_succ, List.length_cons, List.length_nil, List.replicate_succ, List.replicate_zero, Nat.reduceSub, Nat.reduceAdd, Nat.reduceLT, DEnds.fn, bOf_bl, eq_self, reduceIte, Bool.false_eq_true, gNotV_bl, Bool.not_true, Bool.not_false, g2I_int, g2I0_int, g1I_int, gLen_lst, gLen_tup, gInt_int, gMax2_int, gMin2_int, gIsN_non, gIsN_obj, gIsN_dT, gIsN_dK, gIsN_int, xsOf_lst, tsOf_tup, gIx_t0, gIx_t1, gIx_l0, gIx_l1, gIx_l2, iOf_int, gSlS_str, gCatS_str, gRepS_str, gFind_str, gEqA_int, gEqA_str, gEqA_bl, gTup, gLst, Option.isSome_some, Bool.false_xor, Bool.true_xor, gFor]
        by_cases c : a[i] = b[i]
        · rw [decide_eq_true c]
          try simp only [ownLst, ownObj, mTake, mOf, fAndV, fOrV, fArgs, fCons, fNil, fVar_0, fVar_s, fUn, fBin, fBool, startE, envOf, slot, gSeq, frzE, gComp, gCompD, wipe_nil, wipe_cons, List.map_cons, List.map_nil, List.cons_append, List.nil_append, List.append_nil, true_and, and_true, List.set_cons_zero, List.set_cons_succ, List.length_cons, List.length_nil, List.replicate_succ, List.replicate_zero, Nat.reduceSub, Nat.reduceAdd, Nat.reduceLT, DEnds.fn, bOf_bl, eq_self, reduceIte, Bool.false_eq_true, gNotV_bl, Bool.not_true, Bool.not_false, g2I_int, g2I0_int, g1I_int, gLen_lst, gLen_tup, gInt_int, gMax2_int, gMin2_int, gIsN_non, gIsN_obj, gIsN_dT, gIsN_dK, gIsN_int, xsOf_lst, tsOf_tup, gIx_t0, gIx_t1, gIx_l0, gIx_l1, gIx_l2, iOf_int, gSlS_str, gCatS_str, gRepS_str, gFind_str, gEqA_int, gEqA_str, gEqA_bl, gTup, gLst, Option.isSome_some, Bool.false_xor, Bool.true_xor, gFor]
          refine hN _ ⟨i + 1, _, _, hlt, ex2, ?_, rfl⟩
          rw [List.take_add_one, List.take_add_one, ht, ha, hbi, c]
        · rw [decide_eq_false c]
          try simp only [ownLst, ownObj, mTake, mOf, fAndV, fOrV, fArgs, fCons, fNil, fVar_0, fVar_s, fUn, fBin, fBool, startE, envOf, slot, gSeq, frzE, gComp, gCompD, wipe_nil, wipe_cons, List.map_cons, List.map_nil, List.cons_append, List.nil_append, List.append_nil, true_and, and_true, List.set_cons_zero, List.set_cons_succ, List.length_cons, List.length_nil, List.replicate_succ, List.replicate_zero, Nat.reduceSub, Nat.reduceAdd, Nat.reduceLT, DEnds.fn, bOf_bl, eq_self, reduceIte, Bool.false_eq_true, gNotV_bl, Bool.not_true, Bool.not_false, g2I_int, g2I0_int, g1I_int, gLen_lst, gLen_tup, gInt_int, gMax2_int, gMin2_int, gIsN_non, gIsN_obj, gIsN_dT, gIsN_dK, gIsN_int, xsOf_lst, tsOf_tup, gIx_t0, gIx_t1, gIx_l0, gIx_l1, gIx_l2, iOf_int, gSlS_str, gCatS_str, gRepS_str, gFind_str, gEqA_int, gEqA_str, gEqA_bl, gTup, gLst, Option.isSome_some, Bool.false_xor, Bool.true_xor, gFor]
          rw [decide_eq_false (fun z => c (by simp only [z]))] at hR
          exact hR
      · exfalso
        have : i = b.length := by omega
        subst this
        rw [List.drop_eq_nil_of_le (by rw [List.length_range]; exact Nat.le_refl _)] at ex
        cases ex
    · rintro ρ ⟨i, p, q, hi, ex, ht, rfl⟩
      have : i = b.length := by
        apply Nat.le_antisymm hi
        apply Nat.le_of_not_lt
        intro hlt
        have := congrArg List.length ex
        rw [List.length_map, List.length_drop, List.length_range] at this
        simp at this
        omega
      subst this
      rw [List.take_of_length_le (by omega), List.take_length] at ht
      rw [decide_eq_true ht] at hR
      try simp only [ownLst, ownObj, mTake, mOf, fAndV, fOrV, fArgs, fCons, fNil, fVar_0, fVar_s, fUn, fBin, fBool, startE, envOf, slot, gSeq, frzE, gComp, gCompD, wipe_nil, wipe_cons, List.map_cons, List.map_nil, List.cons_append, List.nil_append, List.append_nil, true_and, and_true, List.set_cons_zero, List.set_cons_succ, List.length_cons, List.length_nil, List.replicate_succ, List.replicate_zero, Nat.reduceSub, Nat.reduceAdd, Nat.reduceLT, DEnds.fn, bOf_bl, eq_self, reduceIte, Bool.false_eq_true, gNotV_bl, Bool.not_true, Bool.not_false, g2I_int, g2I0_int, g1I_int, gLen_lst, gLen_tup, gInt_int, gMax2_int, gMin2_int, gIsN_non, gIsN_obj, gIsN_dT, gIsN_dK, gIsN_int, xsOf_lst, tsOf_tup, gIx_t0, gIx_t1, gIx_l0, gIx_l1, gIx_l2, iOf_int, gSlS_str, gCatS_str, gRepS_str, gFind_str, gEqA_int, gEqA_str, gEqA_bl, gTup, gLst, Option.isSome_some, Bool.false_xor, Bool.true_xor, gFor]
      exact hR
  · rw [decide_eq_false (by omega)]
    try simp only [ownLst, ownObj, mTake, mOf, fAndV, fOrV, fArgs, fCons, fNil, fVar_0, fVar_s, fUn, fBin, fBool, startE, envOf, slot, gSeq, frzE, gComp, gCompD, wipe_nil, wipe_cons, List.map_cons, List.map_nil, List.cons_append, List.nil_append, List.append_nil, true_and, and_true, List.set_cons_zero, List.set_cons_succ, List.length_cons, List.length_nil, List.replicate_succ, List.replicate_zero, Nat.reduceSub, Nat.reduceAdd, Nat.reduceLT, DEnds.fn, bOf_bl, eq_self, reduceIte, Bool.false_eq_true, gNotV_bl, Bool.not_true, Bool.not_false, g2I_int, g2I0_int, g1I_int, gLen_lst, gLen_tup, gInt_int, gMax2_int, gMin2_int, gIsN_non, gIsN_obj, gIsN_dT, gIsN_dK, gIsN_int, xsOf_lst, tsOf_tup, gIx_t0, gIx_t1, gIx_l0, gIx_l1, gIx_l2, iOf_int, gSlS_str, gCatS_str, gRepS_str, gFind_str, gEqA_int, gEqA_str, gEqA_bl, gTup, gLst, Option.isSome_some, Bool.false_xor, Bool.true_xor, gFor]
    rw [decide_eq_false (fun z => hl (by rw [z]))] at hR
    exact hR
abbrev s_law_stays : Stmt := topS 21
theorem sc_law_stays : FnScope ["plan", "table", "way"] ["plan", "table"] (defScope s_law_stays) := ⟨rfl, rfl, rfl, by decide +kernel, rfl, by decide +kernel, by decide +kernel⟩
theorem ok_law_stays {f : Addr} {fd : FuncData} {C_Plan : Addr} (F : Fun K "_law_stays" "_law_stays" s_law_stays f fd) (T : Bi mg) (c_Plan_rows : CalM P w K mg base C_Plan "rows" 1 ["self"] (.own 0) [] (w_Plan_rows C_Plan)) (c_law_same : Cal P w K mg base "_law_same" 1 ["told", "due"] (.own 0) [] w_law_same) : FnOk P w K mg base CX0 2 f fd ["plan", "table"] (spD K (.own 0) (w_law_stays C_Plan)) := by
  refine Fun_okD F sc_law_stays (fun _ _ _ h => by obtain ⟨_, e, _, _⟩ := h; rw [e]; rfl) fun B cdv A outer s H E hr => ⟨_, (ds_one (ds_retM (dm_of (de_C c_law_same hr (da_cons (m := .own 0) (de_Cm0 _ c_Plan_rows hr (de_v 0)) (da_cons (m := .own 0) (de_frz (de_sorted (hr.u 67) T.sorted_ (de_frz (de_lcK (own := [("way", 2)]) 0 rfl sc_law_stays.nd (de_v 1) (blk_of ["plan", "table", "way"] (defScope s_law_stays) rfl (by decide +kernel) (by decide +kernel) (by decide +kernel) (by decide +kernel)) (dgc_name 2 sc_law_stays.nd rfl) (hol_cons rfl (fun _ _ => rfl) hol_nil) (fun _ _ _ _ _ => dts_one (dt_gt (de_dget (hr.u 1) (de_v 1) (de_v 2)) (de_int (m := .rd)))) (fun _ _ _ _ _ => (de_tup (da_cons (m := .own 0) (de_v 2) (da_cons (m := .own 0) (de_dget (hr.u 1) (de_v 1) (de_v 2)) da_nil)))))))) da_nil)))))), fun ds R ⟨t, e, tt, hR⟩ => ?_⟩
  subst e
  try simp only [ownLst, ownObj, mTake, mOf, fAndV, fOrV, fArgs, fCons, fNil, fVar_0, fVar_s, fUn, fBin, fBool, startE, envOf, slot, gSeq, frzE, gComp, gCompD, wipe_nil, wipe_cons, List.map_cons, List.map_nil, List.cons_append, List.nil_append, List.append_nil, true_and, and_true, List.set_cons_zero, List.set_cons_succ, List.length_cons, List.length_nil, List.replicate_succ, List.replicate_zero, Nat.reduceSub, Nat.reduceAdd, Nat.reduceLT, DEnds.fn, bOf_bl, eq_self, reduceIte, Bool.false_eq_true, gNotV_bl, Bool.not_true, Bool.not_false, g2I_int, g2I0_int, g1I_int, gLen_lst, gLen_tup, gInt_int, gMax2_int, gMin2_int, gIsN_non, gIsN_obj, gIsN_dT, gIsN_dK, gIsN_int, xsOf_lst, tsOf_tup, gIx_t0, gIx_t1, gIx_l0, gIx_l1, gIx_l2, iOf_int, gSlS_str, gCatS_str, gRepS_str, gFind_str, gEqA_int, gEqA_str, gEqA_bl, gTup, gLst, Option.isSome_some, Bool.false_xor, Bool.true_xor, gFor]
  refine ⟨⟨rfl, rfl⟩, pos t, rfl, tt.pos, ?_⟩
  try simp only [ownLst, ownObj, mTake, mOf, fAndV, fOrV, fArgs, fCons, fNil, fVar_0, fVar_s, fUn, fBin, fBool, startE, envOf, slot, gSeq, frzE, gComp, gCompD, wipe_nil, wipe_cons, List.map_cons, List.map_nil, List.cons_append, List.nil_append, List.append_nil, true_and, and_true, List.set_cons_zero, List.set_cons_succ, List.length_cons, List.length_nil, List.replicate_succ, List.replicate_zero, Nat.reduceSub, Nat.reduceAdd, Nat.reduceLT, DEnds.fn, bOf_bl, eq_self, reduceIte, Bool.false_eq_true, gNotV_bl, Bool.not_true, Bool.not_false, g2I_int, g2I0_int, g1I_int, gLen_lst, gLen_tup, gInt_int, gMax2_int, gMin2_int, gIsN_non, gIsN_obj, gIsN_dT, gIsN_dK, gIsN_int, xsOf_lst, tsOf_tup, gIx_t0, gIx_t1, gIx_l0, gIx_l1, gIx_l2, iOf_int, gSlS_str, gCatS_str, gRepS_str, gFind_str, gEqA_int, gEqA_str, gEqA_bl, gTup, gLst, Option.isSome_some, Bool.false_xor, Bool.true_xor, gFor]
  refine ⟨_, keys_tab t, ?_⟩
  refine compD_map wayT (fun k => if 0 < lk0 t k then some (rowT (k, lk0 t k)) else none) (fun k hk N hN => ?_) ?_ ?_
  · refine ⟨_, rfl, ?_⟩
    try simp only [ownLst, ownObj, mTake, mOf, fAndV, fOrV, fArgs, fCons, fNil, fVar_0, fVar_s, fUn, fBin, fBool, startE, envOf, slot, gSeq, frzE, gComp, gCompD, wipe_nil, wipe_cons, List.map_cons, List.map_nil, List.cons_append, List.nil_append, List.append_nil, true_and, and_true, List.set_cons_zero, List.set_cons_succ, List.length_cons, List.length_nil, List.replicate_succ, List.replicate_zero, Nat.reduceSub, Nat.reduceAdd, Nat.reduceLT, DEnds.fn, bOf_bl, eq_self, reduceIte, Bool.false_eq_true, gNotV_bl, Bool.not_true, Bool.not_false, g2I_int, g2I0_int, g1I_int, gLen_lst, gLen_tup, gInt_int, gMax2_int, gMin2_int, gIsN_non, gIsN_obj, gIsN_dT, gIsN_dK, gIsN_int, xsOf_lst, tsOf_tup, gIx_t0, gIx_t1, gIx_l0, gIx_l1, gIx_l2, iOf_int, gSlS_str, gCatS_str, gRepS_str, gFind_str, gEqA_int, gEqA_str, gEqA_bl, gTup, gLst, Option.isSome_some, Bool.false_xor, Bool.true_xor, gFor]
    refine get_go hk ?_
    try simp only [ownLst, ownObj, mTake, mOf, fAndV, fOrV, fArgs, fCons, fNil, fVar_0, fVar_s, fUn, fBin, fBool, startE, envOf, slot, gSeq, frzE, gComp, gCompD, wipe_nil, wipe_cons, List.map_cons, List.map_nil, List.cons_append, List.nil_append, List.append_nil, true_and, and_true, List.set_cons_zero, List.set_cons_succ, List.length_cons, List.length_nil, List.replicate_succ, List.replicate_zero, Nat.reduceSub, Nat.reduceAdd, Nat.reduceLT, DEnds.fn, bOf_bl, eq_self, reduceIte, Bool.false_eq_true, gNotV_bl, Bool.not_true, Bool.not_false, g2I_int, g2I0_int, g1I_int, gLen_lst, gLen_tup, gInt_int, gMax2_int, gMin2_int, gIsN_non, gIsN_obj, gIsN_dT, gIsN_dK, gIsN_int, xsOf_lst, tsOf_tup, gIx_t0, gIx_t1, gIx_l0, gIx_l1, gIx_l2, iOf_int, gSlS_str, gCatS_str, gRepS_str, gFind_str, gEqA_int, gEqA_str, gEqA_bl, gTup, gLst, Option.isSome_some, Bool.false_xor, Bool.true_xor, gFor]
    by_cases c : 0 < lk0 t k
    · rw [if_pos c] at hN
      rw [decide_eq_true c]
      try simp only [ownLst, ownObj, mTake, mOf, fAndV, fOrV, fArgs, fCons, fNil, fVar_0, fVar_s, fUn, fBin, fBool, startE, envOf, slot, gSeq, frzE, gComp, gCompD, wipe_nil, wipe_cons, List.map_cons, List.map_nil, List.cons_append, List.nil_append, List.append_nil, true_and, and_true, List.set_cons_zero, List.set_cons_succ, List.length_cons, List.length_nil, List.replicate_succ, List.replicate_zero, Nat.reduceSub, Nat.reduceAdd, Nat.reduceLT, DEnds.fn, bOf_bl, eq_self, reduceIte, Bool.false_eq_true, gNotV_bl, Bool.not_true, Bool.not_false, g2I_int, g2I0_int, g1I_int, gLen_lst, gLen_tup, gInt_int, gMax2_int, gMin2_int, gIsN_non, gIsN_obj, gIsN_dT, gIsN_dK, gIsN_int, xsOf_lst, tsOf_tup, gIx_t0, gIx_t1, gIx_l0, gIx_l1, gIx_l2, iOf_int, gSlS_str, gCatS_str, gRepS_str, gFind_str, gEqA_int, gEqA_str, gEqA_bl, gTup, gLst, Option.isSome_some, Bool.false_xor, Bool.true_xor, gFor]
      exact get_go hk ⟨by decide, hN⟩
    · rw [if_neg c] at hN
      rw [decide_eq_false c]
      try simp only [ownLst, ownObj, mTake, mOf, fAndV, fOrV, fArgs, fCons, fNil, fVar_0, fVar_s, fUn, fBin, fBool, startE, envOf, slot, gSeq, frzE, gComp, gCompD, wipe_nil, wipe_cons, List.map_cons, List.map_nil, List.cons_append, List.nil_append, List.append_nil, true_and, and_true, List.set_cons_zero, List.set_cons_succ, List.length_cons, List.length_nil, List.replicate_succ, List.replicate_zero, Nat.reduceSub, Nat.reduceAdd, Nat.reduceLT, DEnds.fn, bOf_bl, eq_self, reduceIte, Bool.false_eq_true, gNotV_bl, Bool.not_true, Bool.not_false, g2I_int, g2I0_int, g1I_int, gLen_lst, gLen_tup, gInt_int, gMax2_int, gMin2_int, gIsN_non, gIsN_obj, gIsN_dT, gIsN_dK, gIsN_int, xsOf_lst, tsOf_tup, gIx_t0, gIx_t1, gIx_l0, gIx_l1, gIx_l2, iOf_int, gSlS_str, gCatS_str, gRepS_str, gFind_str, gEqA_int, gEqA_str, gEqA_bl, gTup, gLst, Option.isSome_some, Bool.false_xor, Bool.true_xor, gFor]
      exact hN
  · rw [List.length_map, sz]
    have := tt.ok.len
    omega
  · have e1 : (t.map (·.1)).filterMap (fun k => if 0 < lk0 t k then some (rowT (k, lk0 t k)) else none) = (pos t).map rowT := by
      have : ∀ l : List (List Str × Int), (∀ e ∈ l, e ∈ t) → (l.map (·.1)).filterMap (fun k => if 0 < lk0 t k then some (rowT (k, lk0 t k)) else none) = (l.filter fun e => decide (0 < e.2)).map rowT := fun l hl => by
        induction l with
        | nil => rfl
        | cons e r ih =>
          have ih := ih fun x hx => hl x (List.mem_cons_of_mem _ hx)
          have e0 : lk0 t e.1 = e.2 := by unfold lk0; rw [lk_at tt.ok.nd (hl e List.mem_cons_self)]; rfl
          rw [List.map_cons, List.filterMap_cons, ih, e0]
          by_cases c : 0 < e.2
          · rw [if_pos c, List.filter_cons_of_pos (by simpa using c)]; rfl
          · rw [if_neg c, List.filter_cons_of_neg (by simpa using c)]
      exact this t fun e h => h
    rw [e1]
    have okp : ∀ r ∈ pos t, wayOk r.1 := fun r hr => tt.pos.way r hr
    refine ⟨sort_rows okp, ?_⟩
    have e2 : ((pos t).map rowT).mergeSort leD = (rows (pos t)).map rowT := by
      rw [rows_stay tt]
      exact (List.map_mergeSort (r := fun a b => leD (rowT a) (rowT b)) (s := leD) (f := rowT) fun _ _ _ _ => rfl).symm
    rw [e2]
    have okr : ∀ r ∈ rows (pos t), wayOk r.1 := fun r hr => by
      rw [rows_stay tt] at hr
      exact okp r ((List.mergeSort_perm _ _).mem_iff.mp hr)
    refine ⟨_, _, rfl, okr, okr, ?_, ?_⟩
    · unfold rows
      rw [List.length_map, sk_len]
      exact tt.pos.len
    · rw [decide_eq_true rfl]
      exact hR
abbrev s_law_name : Stmt := topS 11
theorem sc_law_name : FnScope ["bag", "taken", "letters", "size", "word", "at", "k"] ["bag", "taken"] (defScope s_law_name) := ⟨rfl, rfl, rfl, by decide +kernel, rfl, by decide +kernel, by decide +kernel⟩
theorem ok_law_name {f : Addr} {fd : FuncData} (F : Fun K "_law_name" "_law_name" s_law_name f fd) (T : Bi mg) (c_law_draw : Cal P w K mg base "_law_draw" 1 ["bag", "size"] (.own 0) [] wDraw) : FnOk P w K mg base CX0 2 f fd ["bag", "taken"] (spD K (.own 0) w_law_name) := by
  refine Fun_okD F sc_law_name (fun _ _ _ h => by obtain ⟨_, _, _, e, _⟩ := h; rw [e]; rfl) fun B cdv A outer s H E hr => ⟨_, (ds_cons (ds_setM 2 0 sc_law_name.nd rfl (by first | exact Or.inl rfl | exact Or.inr rfl) (by decide) (dm_of (de_str (m := .own 0))))
(ds_cons (ds_setM 3 0 sc_law_name.nd rfl (by first | exact Or.inl rfl | exact Or.inr rfl) (by decide) (dm_of (de_add (m := .own 0) (de_int (m := .rd)) (de_C c_law_draw hr (da_cons (m := .own 0) (de_v 0) (da_cons (m := .own 0) (de_int (m := .own 0)) da_nil))))))
(ds_cons (ds_setM 4 0 sc_law_name.nd rfl (by first | exact Or.inl rfl | exact Or.inr rfl) (by decide) (dm_of (de_repS (m := .own 0) (de_atS (m := .rd) (de_v 2) (de_C c_law_draw hr (da_cons (m := .own 0) (de_v 0) (da_cons (m := .own 0) (de_int (m := .own 0)) da_nil)))) (de_v 3))))
(ds_cons (ds_setM 5 0 sc_law_name.nd rfl (by first | exact Or.inl rfl | exact Or.inr rfl) (by decide) (dm_of (de_C c_law_draw hr (da_cons (m := .own 0) (de_v 0) (da_cons (m := .own 0) (de_v 3) da_nil)))))
(ds_cons (ds_setM 4 0 sc_law_name.nd rfl (by first | exact Or.inl rfl | exact Or.inr rfl) (by decide) (dm_of (de_catS (m := .own 0) (de_catS (m := .rd) (de_slS (m := .rd) (de_v 4) do_none (do_some (de_v 5))) (de_atS (m := .rd) (de_v 2) (de_C c_law_draw hr (da_cons (m := .own 0) (de_v 0) (da_cons (m := .own 0) (de_int (m := .own 0)) da_nil))))) (de_slS (m := .rd) (de_v 4) (do_some (de_add (m := .rd) (de_v 5) (de_int (m := .rd)))) do_none))))
(ds_cons (ds_for PassesOwn.never rfl (di_range T.range_ (de_int (m := .rd))) (dg_name 6 sc_law_name.nd rfl (by first | exact Or.inl rfl | exact Or.inr rfl) (by decide))
(ds_cons (ds_if (dt_bool (dw_and (dt_notin (de_v 4) (de_v 1)) (dw_and1 (dt_notin (de_v 4) (de_frz (de_lst 0 (da_cons (m := .own 0) (de_str (m := .own 0)) (da_cons (m := .own 0) (de_str (m := .own 0)) (da_cons (m := .own 0) (de_str (m := .own 0)) (da_cons (m := .own 0) (de_str (m := .own 0)) (da_cons (m := .own 0) (de_str (m := .own 0)) da_nil)))))))))))
(ds_one (ds_retM (dm_of (de_v 4))))
ds_nil)
(ds_cons (ds_setM 5 0 sc_law_name.nd rfl (by first | exact Or.inl rfl | exact Or.inr rfl) (by decide) (dm_of (de_mod (m := .own 0) (de_int' (m := .rd) T.int_ (de_v 6)) (de_v 3))))
(ds_one (ds_setM 4 0 sc_law_name.nd rfl (by first | exact Or.inl rfl | exact Or.inr rfl) (by decide) (dm_of (de_catS (m := .own 0) (de_catS (m := .rd) (de_slS (m := .rd) (de_v 4) do_none (do_some (de_v 5))) (de_atS (m := .rd) (de_v 2) (de_mod (m := .rd) (de_int' (m := .rd) T.int_ (de_add (m := .rd) (de_find (m := .rd) (de_v 2) (de_atS (m := .rd) (de_v 4) (de_v 5))) (de_int (m := .rd)))) (de_int (m := .rd))))) (de_slS (m := .rd) (de_v 4) (do_some (de_add (m := .rd) (de_v 5) (de_int (m := .rd)))) do_none))))))))
(ds_one (ds_retM (dm_of (de_v 4)))))))))), fun ds R ⟨b, taken, hb, e, hR⟩ => ?_⟩
  subst e
  try simp only [ownLst, ownObj, mTake, mOf, fAndV, fOrV, fArgs, fCons, fNil, fVar_0, fVar_s, fUn, fBin, fBool, startE, envOf, slot, gSeq, frzE, gComp, gCompD, wipe_nil, wipe_cons, List.map_cons, List.map_nil, List.cons_append, List.nil_append, List.append_nil, true_and, and_true, List.set_cons_zero, List.set_cons_succ, List.length_cons, List.length_nil, List.replicate_succ, List.replicate_zero, Nat.reduceSub, Nat.reduceAdd, Nat.reduceLT, DEnds.fn, bOf_bl, eq_self, reduceIte, Bool.false_eq_true, gNotV_bl, Bool.not_true, Bool.not_false, g2I_int, g2I0_int, g1I_int, gLen_lst, gLen_tup, gInt_int, gMax2_int, gMin2_int, gIsN_non, gIsN_obj, gIsN_dT, gIsN_dK, gIsN_int, xsOf_lst, tsOf_tup, gIx_t0, gIx_t1, gIx_l0, gIx_l1, gIx_l2, iOf_int, gSlS_str, gCatS_str, gRepS_str, gFind_str, gEqA_int, gEqA_str, gEqA_bl, gTup, gLst, Option.isSome_some, Bool.false_xor, Bool.true_xor, gFor]
  refine draw_go hb (by decide) (by decide) fun r0 h0 h1 => ?_
  try simp only [ownLst, ownObj, mTake, mOf, fAndV, fOrV, fArgs, fCons, fNil, fVar_0, fVar_s, fUn, fBin, fBool, startE, envOf, slot, gSeq, frzE, gComp, gCompD, wipe_nil, wipe_cons, List.map_cons, List.map_nil, List.cons_append, List.nil_append, List.append_nil, true_and, and_true, List.set_cons_zero, List.set_cons_succ, List.length_cons, List.length_nil, List.replicate_succ, List.replicate_zero, Nat.reduceSub, Nat.reduceAdd, Nat.reduceLT, DEnds.fn, bOf_bl, eq_self, reduceIte, Bool.false_eq_true, gNotV_bl, Bool.not_true, Bool.not_false, g2I_int, g2I0_int, g1I_int, gLen_lst, gLen_tup, gInt_int, gMax2_int, gMin2_int, gIsN_non, gIsN_obj, gIsN_dT, gIsN_dK, gIsN_int, xsOf_lst, tsOf_tup, gIx_t0, gIx_t1, gIx_l0, gIx_l1, gIx_l2, iOf_int, gSlS_str, gCatS_str, gRepS_str, gFind_str, gEqA_int, gEqA_str, gEqA_bl, gTup, gLst, Option.isSome_some, Bool.false_xor, Bool.true_xor, gFor]
  refine draw_go hb (by decide) (by decide) fun r1 h2 h3 => ?_
  try simp only [ownLst, ownObj, mTake, mOf, fAndV, fOrV, fArgs, fCons, fNil, fVar_0, fVar_s, fUn, fBin, fBool, startE, envOf, slot, gSeq, frzE, gComp, gCompD, wipe_nil, wipe_cons, List.map_cons, List.map_nil, List.cons_append, List.nil_append, List.append_nil, true_and, and_true, List.set_cons_zero, List.set_cons_succ, List.length_cons, List.length_nil, List.replicate_succ, List.replicate_zero, Nat.reduceSub, Nat.reduceAdd, Nat.reduceLT, DEnds.fn, bOf_bl, eq_self, reduceIte, Bool.false_eq_true, gNotV_bl, Bool.not_true, Bool.not_false, g2I_int, g2I0_int, g1I_int, gLen_lst, gLen_tup, gInt_int, gMax2_int, gMin2_int, gIsN_non, gIsN_obj, gIsN_dT, gIsN_dK, gIsN_int, xsOf_lst, tsOf_tup, gIx_t0, gIx_t1, gIx_l0, gIx_l1, gIx_l2, iOf_int, gSlS_str, gCatS_str, gRepS_str, gFind_str, gEqA_int, gEqA_str, gEqA_bl, gTup, gLst, Option.isSome_some, Bool.false_xor, Bool.true_xor, gFor]
  refine letter_go h2 h3 fun z hz hz1 => ?_
  try simp only [ownLst, ownObj, mTake, mOf, fAndV, fOrV, fArgs, fCons, fNil, fVar_0, fVar_s, fUn, fBin, fBool, startE, envOf, slot, gSeq, frzE, gComp, gCompD, wipe_nil, wipe_cons, List.map_cons, List.map_nil, List.cons_append, List.nil_append, List.append_nil, true_and, and_true, List.set_cons_zero, List.set_cons_succ, List.length_cons, List.length_nil, List.replicate_succ, List.replicate_zero, Nat.reduceSub, Nat.reduceAdd, Nat.reduceLT, DEnds.fn, bOf_bl, eq_self, reduceIte, Bool.false_eq_true, gNotV_bl, Bool.not_true, Bool.not_false, g2I_int, g2I0_int, g1I_int, gLen_lst, gLen_tup, gInt_int, gMax2_int, gMin2_int, gIsN_non, gIsN_obj, gIsN_dT, gIsN_dK, gIsN_int, xsOf_lst, tsOf_tup, gIx_t0, gIx_t1, gIx_l0, gIx_l1, gIx_l2, iOf_int, gSlS_str, gCatS_str, gRepS_str, gFind_str, gEqA_int, gEqA_str, gEqA_bl, gTup, gLst, Option.isSome_some, Bool.false_xor, Bool.true_xor, gFor]
  have hs : (1 + r0).toNat * z.length ≤ 8 := by rw [hz1]; omega
  refine ⟨by omega, by omega, by rw [sz]; omega, ?_⟩
  have hw0 : (repS z (1 + r0)).length = (1 + r0).toNat := by rw [repS_len, hz1]; omega
  have ok0 := strOk_rep (n := 1 + r0) hz
  generalize repS z (1 + r0) = w0 at hw0 ok0
  refine draw_go hb (by omega) (by omega) fun at0 h4 h5 => ?_
  try simp only [ownLst, ownObj, mTake, mOf, fAndV, fOrV, fArgs, fCons, fNil, fVar_0, fVar_s, fUn, fBin, fBool, startE, envOf, slot, gSeq, frzE, gComp, gCompD, wipe_nil, wipe_cons, List.map_cons, List.map_nil, List.cons_append, List.nil_append, List.append_nil, true_and, and_true, List.set_cons_zero, List.set_cons_succ, List.length_cons, List.length_nil, List.replicate_succ, List.replicate_zero, Nat.reduceSub, Nat.reduceAdd, Nat.reduceLT, DEnds.fn, bOf_bl, eq_self, reduceIte, Bool.false_eq_true, gNotV_bl, Bool.not_true, Bool.not_false, g2I_int, g2I0_int, g1I_int, gLen_lst, gLen_tup, gInt_int, gMax2_int, gMin2_int, gIsN_non, gIsN_obj, gIsN_dT, gIsN_dK, gIsN_int, xsOf_lst, tsOf_tup, gIx_t0, gIx_t1, gIx_l0, gIx_l1, gIx_l2, iOf_int, gSlS_str, gCatS_str, gRepS_str, gFind_str, gEqA_int, gEqA_str, gEqA_bl, gTup, gLst, Option.isSome_some, Bool.false_xor, Bool.true_xor, gFor]
  refine ⟨by rw [sz]; omega, ?_⟩
  refine draw_go hb (by decide) (by decide) fun r2 h6 h7 => ?_
  try simp only [ownLst, ownObj, mTake, mOf, fAndV, fOrV, fArgs, fCons, fNil, fVar_0, fVar_s, fUn, fBin, fBool, startE, envOf, slot, gSeq, frzE, gComp, gCompD, wipe_nil, wipe_cons, List.map_cons, List.map_nil, List.cons_append, List.nil_append, List.append_nil, true_and, and_true, List.set_cons_zero, List.set_cons_succ, List.length_cons, List.length_nil, List.replicate_succ, List.replicate_zero, Nat.reduceSub, Nat.reduceAdd, Nat.reduceLT, DEnds.fn, bOf_bl, eq_self, reduceIte, Bool.false_eq_true, gNotV_bl, Bool.not_true, Bool.not_false, g2I_int, g2I0_int, g1I_int, gLen_lst, gLen_tup, gInt_int, gMax2_int, gMin2_int, gIsN_non, gIsN_obj, gIsN_dT, gIsN_dK, gIsN_int, xsOf_lst, tsOf_tup, gIx_t0, gIx_t1, gIx_l0, gIx_l1, gIx_l2, iOf_int, gSlS_str, gCatS_str, gRepS_str, gFind_str, gEqA_int, gEqA_str, gEqA_bl, gTup, gLst, Option.isSome_some, Bool.false_xor, Bool.true_xor, gFor]
  refine letter_go h6 h7 fun y hy hy1 => ?_
  try simp only [ownLst, ownObj, mTake, mOf, fAndV, fOrV, fArgs, fCons, fNil, fVar_0, fVar_s, fUn, fBin, fBool, startE, envOf, slot, gSeq, frzE, gComp, gCompD, wipe_nil, wipe_cons, List.map_cons, List.map_nil, List.cons_append, List.nil_append, List.append_nil, true_and, and_true, List.set_cons_zero, List.set_cons_succ, List.length_cons, List.length_nil, List.replicate_succ, List.replicate_zero, Nat.reduceSub, Nat.reduceAdd, Nat.reduceLT, DEnds.fn, bOf_bl, eq_self, reduceIte, Bool.false_eq_true, gNotV_bl, Bool.not_true, Bool.not_false, g2I_int, g2I0_int, g1I_int, gLen_lst, gLen_tup, gInt_int, gMax2_int, gMin2_int, gIsN_non, gIsN_obj, gIsN_dT, gIsN_dK, gIsN_int, xsOf_lst, tsOf_tup, gIx_t0, gIx_t1, gIx_l0, gIx_l1, gIx_l2, iOf_int, gSlS_str, gCatS_str, gRepS_str, gFind_str, gEqA_int, gEqA_str, gEqA_bl, gTup, gLst, Option.isSome_some, Bool.false_xor, Bool.true_xor, gFor]
  have a1 : (cutS w0 none (some at0)).length = at0.toNat := cut_to h4 (by omega)
  have a2 : (cutS w0 (some (at0 + 1)) none).length = w0.length - (at0 + 1).toNat := cut_from (by omega) (by omega)
  have an := anew ok0 hy hw0 hy1 h4 (by omega)
  refine ⟨by rw [sz]; omega, by rw [sz]; omega, by rw [sz, len_cat]; omega, by decide, by decide, ?_⟩
  dsimp only
  refine forD_go (fun xs ρ => ∃ (w : Str) (a k : Option (Nat × D)) (js : List Nat), xs = js.map (fun j : Nat => D.int (0 + (j : Int))) ∧ strOk w = true ∧ w.length = (1 + r0).toNat ∧ ρ = [some (0, .raw (.ref b)), some (0, .lst (taken.map .str)), some (0, .str abc), some (0, .int (1 + r0)), some (0, .str w), a, k]) ?_ ?_ _ _ ⟨_, _, _, List.range 200, rfl, an.1, an.2, rfl⟩
  · rintro x r ρ ⟨w, a, k, js, ex, okw, lw, rfl⟩ N hN
    cases js with
    | nil => cases ex
    | cons j js =>
      rw [List.map_cons] at ex
      injection ex with ex1 ex2
      subst ex1
      refine ⟨_, rfl, ?_⟩
      try simp only [ownLst, ownObj, mTake, mOf, fAndV, fOrV, fArgs, fCons, fNil, fVar_0, fVar_s, fUn, fBin, fBool, startE, envOf, slot, gSeq, frzE, gComp, gCompD, wipe_nil, wipe_cons, List.map_cons, List.map_nil, List.cons_append, List.nil_append, List.append_nil, true_and, and_true, List.set_cons_zero, List.set_cons_succ, List.length_cons, List.length_nil, List.replicate_succ, List.replicate_zero, Nat.reduceSub, Nat.reduceAdd, Nat.reduceLT, DEnds.fn, bOf_bl, eq_self, reduceIte, Bool.false_eq_true, gNotV_bl, Bool.not_true, Bool.not_false, g2I_int, g2I0_int, g1I_int, gLen_lst, gLen_tup, gInt_int, gMax2_int, gMin2_int, gIsN_non, gIsN_obj, gIsN_dT, gIsN_dK, gIsN_int, xsOf_lst, tsOf_tup, gIx_t0, gIx_t1, gIx_l0, gIx_l1, gIx_l2, iOf_int, gSlS_str, gCatS_str, gRepS_str, gFind_str, gEqA_int, gEqA_str, gEqA_bl, gTup, gLst, Option.isSome_some, Bool.false_xor, Bool.true_xor, gFor]
      refine ⟨_, rfl, rfl, all_str taken, ?_⟩
      try simp only [ownLst, ownObj, mTake, mOf, fAndV, fOrV, fArgs, fCons, fNil, fVar_0, fVar_s, fUn, fBin, fBool, startE, envOf, slot, gSeq, frzE, gComp, gCompD, wipe_nil, wipe_cons, List.map_cons, List.map_nil, List.cons_append, List.nil_append, List.append_nil, true_and, and_true, List.set_cons_zero, List.set_cons_succ, List.length_cons, List.length_nil, List.replicate_succ, List.replicate_zero, Nat.reduceSub, Nat.reduceAdd, Nat.reduceLT, DEnds.fn, bOf_bl, eq_self, reduceIte, Bool.false_eq_true, gNotV_bl, Bool.not_true, Bool.not_false, g2I_int, g2I0_int, g1I_int, gLen_lst, gLen_tup, gInt_int, gMax2_int, gMin2_int, gIsN_non, gIsN_obj, gIsN_dT, gIsN_dK, gIsN_int, xsOf_lst, tsOf_tup, gIx_t0, gIx_t1, gIx_l0, gIx_l1, gIx_l2, iOf_int, gSlS_str, gCatS_str, gRepS_str, gFind_str, gEqA_int, gEqA_str, gEqA_bl, gTup, gLst, Option.isSome_some, Bool.false_xor, Bool.true_xor, gFor]
      have step : ∀ M : Env → Prop, (∀ ρ2, (∃ (w : Str) (a k : Option (Nat × D)) (js : List Nat), r = js.map (fun j : Nat => D.int (0 + (j : Int))) ∧ strOk w = true ∧ w.length = (1 + r0).toNat ∧ ρ2 = [some (0, .raw (.ref b)), some (0, .lst (taken.map .str)), some (0, .str abc), some (0, .int (1 + r0)), some (0, .str w), a, k]) → M ρ2) → True := fun _ _ => trivial
      have m0 : 0 ≤ (0 + (j : Int)) % (1 + r0) := Int.emod_nonneg _ (by omega)
      have m1 : (0 + (j : Int)) % (1 + r0) < 1 + r0 := Int.emod_lt_of_pos _ (by omega)
      have b1 : (cutS w none (some ((0 + (j : Int)) % (1 + r0)))).length = ((0 + (j : Int)) % (1 + r0)).toNat := cut_to m0 (by omega)
      have b2 : (cutS w (some ((0 + (j : Int)) % (1 + r0) + 1)) none).length = w.length - ((0 + (j : Int)) % (1 + r0) + 1).toNat := cut_from (by omega) (by omega)
      cases hin : (taken.map D.str).any fun z => eqF z (.str w) with
      | false =>
        try simp only [ownLst, ownObj, mTake, mOf, fAndV, fOrV, fArgs, fCons, fNil, fVar_0, fVar_s, fUn, fBin, fBool, startE, envOf, slot, gSeq, frzE, gComp, gCompD, wipe_nil, wipe_cons, List.map_cons, List.map_nil, List.cons_append, List.nil_append, List.append_nil, true_and, and_true, List.set_cons_zero, List.set_cons_succ, List.length_cons, List.length_nil, List.replicate_succ, List.replicate_zero, Nat.reduceSub, Nat.reduceAdd, Nat.reduceLT, DEnds.fn, bOf_bl, eq_self, reduceIte, Bool.false_eq_true, gNotV_bl, Bool.not_true, Bool.not_false, g2I_int, g2I0_int, g1I_int, gLen_lst, gLen_tup, gInt_int, gMax2_int, gMin2_int, gIsN_non, gIsN_obj, gIsN_dT, gIsN_dK, gIsN_int, xsOf_lst, tsOf_tup, gIx_t0, gIx_t1, gIx_l0, gIx_l1, gIx_l2, iOf_int, gSlS_str, gCatS_str, gRepS_str, gFind_str, gEqA_int, gEqA_str, gEqA_bl, gTup, gLst, Option.isSome_some, Bool.false_xor, Bool.true_xor, gFor]
        refine ⟨by decide, _, rfl, rfl, rfl, ?_⟩
        try simp only [ownLst, ownObj, mTake, mOf, fAndV, fOrV, fArgs, fCons, fNil, fVar_0, fVar_s, fUn, fBin, fBool, startE, envOf, slot, gSeq, frzE, gComp, gCompD, wipe_nil, wipe_cons, List.map_cons, List.map_nil, List.cons_append, List.nil_append, List.append_nil, true_and, and_true, List.set_cons_zero, List.set_cons_succ, List.length_cons, List.length_nil, List.replicate_succ, List.replicate_zero, Nat.reduceSub, Nat.reduceAdd, Nat.reduceLT, DEnds.fn, bOf_bl, eq_self, reduceIte, Bool.false_eq_true, gNotV_bl, Bool.not_true, Bool.not_false, g2I_int, g2I0_int, g1I_int, gLen_lst, gLen_tup, gInt_int, gMax2_int, gMin2_int, gIsN_non, gIsN_obj, gIsN_dT, gIsN_dK, gIsN_int, xsOf_lst, tsOf_tup, gIx_t0, gIx_t1, gIx_l0, gIx_l1, gIx_l2, iOf_int, gSlS_str, gCatS_str, gRepS_str, gFind_str, gEqA_int, gEqA_str, gEqA_bl, gTup, gLst, Option.isSome_some, Bool.false_xor, Bool.true_xor, gFor]
        cases hin2 : ([D.str "and", D.str "or", D.str "lacks", D.str "any", D.str "none"] : List D).any fun z => eqF z (.str w) with
        | false =>
          try simp only [ownLst, ownObj, mTake, mOf, fAndV, fOrV, fArgs, fCons, fNil, fVar_0, fVar_s, fUn, fBin, fBool, startE, envOf, slot, gSeq, frzE, gComp, gCompD, wipe_nil, wipe_cons, List.map_cons, List.map_nil, List.cons_append, List.nil_append, List.append_nil, true_and, and_true, List.set_cons_zero, List.set_cons_succ, List.length_cons, List.length_nil, List.replicate_succ, List.replicate_zero, Nat.reduceSub, Nat.reduceAdd, Nat.reduceLT, DEnds.fn, bOf_bl, eq_self, reduceIte, Bool.false_eq_true, gNotV_bl, Bool.not_true, Bool.not_false, g2I_int, g2I0_int, g1I_int, gLen_lst, gLen_tup, gInt_int, gMax2_int, gMin2_int, gIsN_non, gIsN_obj, gIsN_dT, gIsN_dK, gIsN_int, xsOf_lst, tsOf_tup, gIx_t0, gIx_t1, gIx_l0, gIx_l1, gIx_l2, iOf_int, gSlS_str, gCatS_str, gRepS_str, gFind_str, gEqA_int, gEqA_str, gEqA_bl, gTup, gLst, Option.isSome_some, Bool.false_xor, Bool.true_xor, gFor]
          exact hR w okw
        | true =>
          try simp only [ownLst, ownObj, mTake, mOf, fAndV, fOrV, fArgs, fCons, fNil, fVar_0, fVar_s, fUn, fBin, fBool, startE, envOf, slot, gSeq, frzE, gComp, gCompD, wipe_nil, wipe_cons, List.map_cons, List.map_nil, List.cons_append, List.nil_append, List.append_nil, true_and, and_true, List.set_cons_zero, List.set_cons_succ, List.length_cons, List.length_nil, List.replicate_succ, List.replicate_zero, Nat.reduceSub, Nat.reduceAdd, Nat.reduceLT, DEnds.fn, bOf_bl, eq_self, reduceIte, Bool.false_eq_true, gNotV_bl, Bool.not_true, Bool.not_false, g2I_int, g2I0_int, g1I_int, gLen_lst, gLen_tup, gInt_int, gMax2_int, gMin2_int, gIsN_non, gIsN_obj, gIsN_dT, gIsN_dK, gIsN_int, xsOf_lst, tsOf_tup, gIx_t0, gIx_t1, gIx_l0, gIx_l1, gIx_l2, iOf_int, gSlS_str, gCatS_str, gRepS_str, gFind_str, gEqA_int, gEqA_str, gEqA_bl, gTup, gLst, Option.isSome_some, Bool.false_xor, Bool.true_xor, gFor]
          refine ⟨by omega, by rw [sz]; omega, trivial, sign_go (by omega) m0 (by omega) fun y => ?_⟩
          try simp only [ownLst, ownObj, mTake, mOf, fAndV, fOrV, fArgs, fCons, fNil, fVar_0, fVar_s, fUn, fBin, fBool, startE, envOf, slot, gSeq, frzE, gComp, gCompD, wipe_nil, wipe_cons, List.map_cons, List.map_nil, List.cons_append, List.nil_append, List.append_nil, true_and, and_true, List.set_cons_zero, List.set_cons_succ, List.length_cons, List.length_nil, List.replicate_succ, List.replicate_zero, Nat.reduceSub, Nat.reduceAdd, Nat.reduceLT, DEnds.fn, bOf_bl, eq_self, reduceIte, Bool.false_eq_true, gNotV_bl, Bool.not_true, Bool.not_false, g2I_int, g2I0_int, g1I_int, gLen_lst, gLen_tup, gInt_int, gMax2_int, gMin2_int, gIsN_non, gIsN_obj, gIsN_dT, gIsN_dK, gIsN_int, xsOf_lst, tsOf_tup, gIx_t0, gIx_t1, gIx_l0, gIx_l1, gIx_l2, iOf_int, gSlS_str, gCatS_str, gRepS_str, gFind_str, gEqA_int, gEqA_str, gEqA_bl, gTup, gLst, Option.isSome_some, Bool.false_xor, Bool.true_xor, gFor]
          refine ⟨by decide, letter_go (Int.emod_nonneg _ (by decide)) (Int.emod_lt_of_pos _ (by decide)) fun v hv hv1 => ?_⟩
          try simp only [ownLst, ownObj, mTake, mOf, fAndV, fOrV, fArgs, fCons, fNil, fVar_0, fVar_s, fUn, fBin, fBool, startE, envOf, slot, gSeq, frzE, gComp, gCompD, wipe_nil, wipe_cons, List.map_cons, List.map_nil, List.cons_append, List.nil_append, List.append_nil, true_and, and_true, List.set_cons_zero, List.set_cons_succ, List.length_cons, List.length_nil, List.replicate_succ, List.replicate_zero, Nat.reduceSub, Nat.reduceAdd, Nat.reduceLT, DEnds.fn, bOf_bl, eq_self, reduceIte, Bool.false_eq_true, gNotV_bl, Bool.not_true, Bool.not_false, g2I_int, g2I0_int, g1I_int, gLen_lst, gLen_tup, gInt_int, gMax2_int, gMin2_int, gIsN_non, gIsN_obj, gIsN_dT, gIsN_dK, gIsN_int, xsOf_lst, tsOf_tup, gIx_t0, gIx_t1, gIx_l0, gIx_l1, gIx_l2, iOf_int, gSlS_str, gCatS_str, gRepS_str, gFind_str, gEqA_int, gEqA_str, gEqA_bl, gTup, gLst, Option.isSome_some, Bool.false_xor, Bool.true_xor, gFor]
          have an2 := anew okw hv lw hv1 m0 (by omega)
          exact ⟨by rw [sz]; omega, by rw [sz]; omega, by rw [sz, len_cat]; omega, hN _ ⟨_, _, _, js, ex2, an2.1, an2.2, rfl⟩⟩
      | true =>
        try simp only [ownLst, ownObj, mTake, mOf, fAndV, fOrV, fArgs, fCons, fNil, fVar_0, fVar_s, fUn, fBin, fBool, startE, envOf, slot, gSeq, frzE, gComp, gCompD, wipe_nil, wipe_cons, List.map_cons, List.map_nil, List.cons_append, List.nil_append, List.append_nil, true_and, and_true, List.set_cons_zero, List.set_cons_succ, List.length_cons, List.length_nil, List.replicate_succ, List.replicate_zero, Nat.reduceSub, Nat.reduceAdd, Nat.reduceLT, DEnds.fn, bOf_bl, eq_self, reduceIte, Bool.false_eq_true, gNotV_bl, Bool.not_true, Bool.not_false, g2I_int, g2I0_int, g1I_int, gLen_lst, gLen_tup, gInt_int, gMax2_int, gMin2_int, gIsN_non, gIsN_obj, gIsN_dT, gIsN_dK, gIsN_int, xsOf_lst, tsOf_tup, gIx_t0, gIx_t1, gIx_l0, gIx_l1, gIx_l2, iOf_int, gSlS_str, gCatS_str, gRepS_str, gFind_str, gEqA_int, gEqA_str, gEqA_bl, gTup, gLst, Option.isSome_some, Bool.false_xor, Bool.true_xor, gFor]
        refine ⟨by omega, by rw [sz]; omega, trivial, sign_go (by omega) m0 (by omega) fun y => ?_⟩
        try simp only [ownLst, ownObj, mTake, mOf, fAndV, fOrV, fArgs, fCons, fNil, fVar_0, fVar_s, fUn, fBin, fBool, startE, envOf, slot, gSeq, frzE, gComp, gCompD, wipe_nil, wipe_cons, List.map_cons, List.map_nil, List.cons_append, List.nil_append, List.append_nil, true_and, and_true, List.set_cons_zero, List.set_cons_succ, List.length_cons, List.length_nil, List.replicate_succ, List.replicate_zero, Nat.reduceSub, Nat.reduceAdd, Nat.reduceLT, DEnds.fn, bOf_bl, eq_self, reduceIte, Bool.false_eq_true, gNotV_bl, Bool.not_true, Bool.not_false, g2I_int, g2I0_int, g1I_int, gLen_lst, gLen_tup, gInt_int, gMax2_int, gMin2_int, gIsN_non, gIsN_obj, gIsN_dT, gIsN_dK, gIsN_int, xsOf_lst, tsOf_tup, gIx_t0, gIx_t1, gIx_l0, gIx_l1, gIx_l2, iOf_int, gSlS_str, gCatS_str, gRepS_str, gFind_str, gEqA_int, gEqA_str, gEqA_bl, gTup, gLst, Option.isSome_some, Bool.false_xor, Bool.true_xor, gFor]
        refine ⟨by decide, letter_go (Int.emod_nonneg _ (by decide)) (Int.emod_lt_of_pos _ (by decide)) fun v hv hv1 => ?_⟩
        try simp only [ownLst, ownObj, mTake, mOf, fAndV, fOrV, fArgs, fCons, fNil, fVar_0, fVar_s, fUn, fBin, fBool, startE, envOf, slot, gSeq, frzE, gComp, gCompD, wipe_nil, wipe_cons, List.map_cons, List.map_nil, List.cons_append, List.nil_append, List.append_nil, true_and, and_true, List.set_cons_zero, List.set_cons_succ, List.length_cons, List.length_nil, List.replicate_succ, List.replicate_zero, Nat.reduceSub, Nat.reduceAdd, Nat.reduceLT, DEnds.fn, bOf_bl, eq_self, reduceIte, Bool.false_eq_true, gNotV_bl, Bool.not_true, Bool.not_false, g2I_int, g2I0_int, g1I_int, gLen_lst, gLen_tup, gInt_int, gMax2_int, gMin2_int, gIsN_non, gIsN_obj, gIsN_dT, gIsN_dK, gIsN_int, xsOf_lst, tsOf_tup, gIx_t0, gIx_t1, gIx_l0, gIx_l1, gIx_l2, iOf_int, gSlS_str, gCatS_str, gRepS_str, gFind_str, gEqA_int, gEqA_str, gEqA_bl, gTup, gLst, Option.isSome_some, Bool.false_xor, Bool.true_xor, gFor]
        have an2 := anew okw hv lw hv1 m0 (by omega)
        exact ⟨by rw [sz]; omega, by rw [sz]; omega, by rw [sz, len_cat]; omega, hN _ ⟨_, _, _, js, ex2, an2.1, an2.2, rfl⟩⟩
  · rintro ρ ⟨w, a, k, js, ex, okw, lw, rfl⟩
    try simp only [ownLst, ownObj, mTake, mOf, fAndV, fOrV, fArgs, fCons, fNil, fVar_0, fVar_s, fUn, fBin, fBool, startE, envOf, slot, gSeq, frzE, gComp, gCompD, wipe_nil, wipe_cons, List.map_cons, List.map_nil, List.cons_append, List.nil_append, List.append_nil, true_and, and_true, List.set_cons_zero, List.set_cons_succ, List.length_cons, List.length_nil, List.replicate_succ, List.replicate_zero, Nat.reduceSub, Nat.reduceAdd, Nat.reduceLT, DEnds.fn, bOf_bl, eq_self, reduceIte, Bool.false_eq_true, gNotV_bl, Bool.not_true, Bool.not_false, g2I_int, g2I0_int, g1I_int, gLen_lst, gLen_tup, gInt_int, gMax2_int, gMin2_int, gIsN_non, gIsN_obj, gIsN_dT, gIsN_dK, gIsN_int, xsOf_lst, tsOf_tup, gIx_t0, gIx_t1, gIx_l0, gIx_l1, gIx_l2, iOf_int, gSlS_str, gCatS_str, gRepS_str, gFind_str, gEqA_int, gEqA_str, gEqA_bl, gTup, gLst, Option.isSome_some, Bool.false_xor, Bool.true_xor, gFor]
    exact hR w okw
abbrev s_law_names : Stmt := topS 12
theorem sc_law_names : FnScope ["bag", "count", "names", "k"] ["bag", "count"] (defScope s_law_names) := ⟨rfl, rfl, rfl, by decide +kernel, rfl, by decide +kernel, by decide +kernel⟩
theorem ok_law_names {f : Addr} {fd : FuncData} (F : Fun K "_law_names" "_law_names" s_law_names f fd) (T : Bi mg) (c_law_name : Cal P w K mg base "_law_name" 2 ["bag", "taken"] (.own 0) [] w_law_name) : FnOk P w K mg base CX0 3 f fd ["bag", "count"] (spD K (.own 0) w_law_names) := by
  refine Fun_okD F sc_law_names (fun _ _ _ h => by obtain ⟨_, _, _, e, _, _, _⟩ := h; rw [e]; rfl) fun B cdv A outer s H E hr => ⟨_, (ds_cons (ds_setM 2 1 sc_law_names.nd rfl (by first | exact Or.inl rfl | exact Or.inr rfl) (by decide) (dm_of (de_lst 0 da_nil)))
(ds_cons (ds_for PassesOwn.never rfl (di_range T.range_ (de_v 1)) (dg_name 3 sc_law_names.nd rfl (by first | exact Or.inl rfl | exact Or.inr rfl) (by decide))
(ds_one (ds_exprM (m := .own 0) (dm_append 2 0 (dm_of (de_CR (n := 0) c_law_name hr (da_cons (m := .rd) (de_rd (de_v 0)) (da_cons (m := .rd) (de_rd (de_var 2 1)) da_nil))))))))
(ds_one (ds_frz 2 (ds_retM (dm_of (de_v 2))))))), fun ds R ⟨b, n, hb, e, h0, h8, hR⟩ => ?_⟩
  subst e
  try simp only [ownLst, ownObj, mTake, mOf, fAndV, fOrV, fArgs, fCons, fNil, fVar_0, fVar_s, fUn, fBin, fBool, startE, envOf, slot, gSeq, frzE, gComp, gCompD, wipe_nil, wipe_cons, List.map_cons, List.map_nil, List.cons_append, List.nil_append, List.append_nil, true_and, and_true, List.set_cons_zero, List.set_cons_succ, List.length_cons, List.length_nil, List.replicate_succ, List.replicate_zero, Nat.reduceSub, Nat.reduceAdd, Nat.reduceLT, DEnds.fn, bOf_bl, eq_self, reduceIte, Bool.false_eq_true, gNotV_bl, Bool.not_true, Bool.not_false, g2I_int, g2I0_int, g1I_int, gLen_lst, gLen_tup, gInt_int, gMax2_int, gMin2_int, gIsN_non, gIsN_obj, gIsN_dT, gIsN_dK, gIsN_int, xsOf_lst, tsOf_tup, gIx_t0, gIx_t1, gIx_l0, gIx_l1, gIx_l2, iOf_int, gSlS_str, gCatS_str, gRepS_str, gFind_str, gEqA_int, gEqA_str, gEqA_bl, gTup, gLst, Option.isSome_some, Bool.false_xor, Bool.true_xor, gFor]
  refine ⟨by decide, by omega, by omega, ?_⟩
  dsimp only
  refine forD_go (fun xs ρ => ∃ (ns : List Str) (k : Option (Nat × D)) (js : List Nat), xs = js.map (fun j : Nat => D.int (0 + (j : Int))) ∧ (∀ s ∈ ns, strOk s = true) ∧ ns.length + js.length = n.toNat ∧ ρ = [some (0, .raw (.ref b)), some (0, .int n), some (1, .lst (ns.map .str)), k]) ?_ ?_ _ _ ⟨[], _, List.range n.toNat, rfl, fun s h => (by cases h), by simp, rfl⟩
  · rintro x r ρ ⟨ns, k, js, ex, ok, hl, rfl⟩ N hN
    cases js with
    | nil => cases ex
    | cons j js =>
      rw [List.map_cons] at ex
      injection ex with ex1 ex2
      subst ex1
      rw [List.length_cons] at hl
      refine ⟨_, rfl, ?_⟩
      try simp only [ownLst, ownObj, mTake, mOf, fAndV, fOrV, fArgs, fCons, fNil, fVar_0, fVar_s, fUn, fBin, fBool, startE, envOf, slot, gSeq, frzE, gComp, gCompD, wipe_nil, wipe_cons, List.map_cons, List.map_nil, List.cons_append, List.nil_append, List.append_nil, true_and, and_true, List.set_cons_zero, List.set_cons_succ, List.length_cons, List.length_nil, List.replicate_succ, List.replicate_zero, Nat.reduceSub, Nat.reduceAdd, Nat.reduceLT, DEnds.fn, bOf_bl, eq_self, reduceIte, Bool.false_eq_true, gNotV_bl, Bool.not_true, Bool.not_false, g2I_int, g2I0_int, g1I_int, gLen_lst, gLen_tup, gInt_int, gMax2_int, gMin2_int, gIsN_non, gIsN_obj, gIsN_dT, gIsN_dK, gIsN_int, xsOf_lst, tsOf_tup, gIx_t0, gIx_t1, gIx_l0, gIx_l1, gIx_l2, iOf_int, gSlS_str, gCatS_str, gRepS_str, gFind_str, gEqA_int, gEqA_str, gEqA_bl, gTup, gLst, Option.isSome_some, Bool.false_xor, Bool.true_xor, gFor]
      refine ⟨b, ns, hb, rfl, fun s hs => ⟨rfl, ?_⟩⟩
      try simp only [ownLst, ownObj, mTake, mOf, fAndV, fOrV, fArgs, fCons, fNil, fVar_0, fVar_s, fUn, fBin, fBool, startE, envOf, slot, gSeq, frzE, gComp, gCompD, wipe_nil, wipe_cons, List.map_cons, List.map_nil, List.cons_append, List.nil_append, List.append_nil, true_and, and_true, List.set_cons_zero, List.set_cons_succ, List.length_cons, List.length_nil, List.replicate_succ, List.replicate_zero, Nat.reduceSub, Nat.reduceAdd, Nat.reduceLT, DEnds.fn, bOf_bl, eq_self, reduceIte, Bool.false_eq_true, gNotV_bl, Bool.not_true, Bool.not_false, g2I_int, g2I0_int, g1I_int, gLen_lst, gLen_tup, gInt_int, gMax2_int, gMin2_int, gIsN_non, gIsN_obj, gIsN_dT, gIsN_dK, gIsN_int, xsOf_lst, tsOf_tup, gIx_t0, gIx_t1, gIx_l0, gIx_l1, gIx_l2, iOf_int, gSlS_str, gCatS_str, gRepS_str, gFind_str, gEqA_int, gEqA_str, gEqA_bl, gTup, gLst, Option.isSome_some, Bool.false_xor, Bool.true_xor, gFor]
      refine ⟨by rw [List.length_map, sz]; omega, hN _ ⟨ns ++ [s], _, js, ex2, fun y hy => ?_, by rw [List.length_append, List.length_singleton]; omega, by rw [List.map_append]; rfl⟩⟩
      rcases List.mem_append.mp hy with z | z
      · exact ok y z
      · rw [List.mem_singleton.mp z]; exact hs
  · rintro ρ ⟨ns, k, js, ex, ok, hl, rfl⟩
    cases js with
    | cons j js => cases ex
    | nil =>
      try simp only [ownLst, ownObj, mTake, mOf, fAndV, fOrV, fArgs, fCons, fNil, fVar_0, fVar_s, fUn, fBin, fBool, startE, envOf, slot, gSeq, frzE, gComp, gCompD, wipe_nil, wipe_cons, List.map_cons, List.map_nil, List.cons_append, List.nil_append, List.append_nil, true_and, and_true, List.set_cons_zero, List.set_cons_succ, List.length_cons, List.length_nil, List.replicate_succ, List.replicate_zero, Nat.reduceSub, Nat.reduceAdd, Nat.reduceLT, DEnds.fn, bOf_bl, eq_self, reduceIte, Bool.false_eq_true, gNotV_bl, Bool.not_true, Bool.not_false, g2I_int, g2I0_int, g1I_int, gLen_lst, gLen_tup, gInt_int, gMax2_int, gMin2_int, gIsN_non, gIsN_obj, gIsN_dT, gIsN_dK, gIsN_int, xsOf_lst, tsOf_tup, gIx_t0, gIx_t1, gIx_l0, gIx_l1, gIx_l2, iOf_int, gSlS_str, gCatS_str, gRepS_str, gFind_str, gEqA_int, gEqA_str, gEqA_bl, gTup, gLst, Option.isSome_some, Bool.false_xor, Bool.true_xor, gFor]
      exact hR ns hl ok
abbrev s_law_cents : Stmt := topS 14
theorem sc_law_cents : FnScope ["bag", "chosen", "top", "tables", "k", "cents", "after"] ["bag", "chosen"] (defScope s_law_cents) := ⟨rfl, rfl, rfl, by decide +kernel, rfl, by decide +kernel, by decide +kernel⟩
theorem ok_law_cents {f : Addr} {fd : FuncData} (F : Fun K "_law_cents" "_law_cents" s_law_cents f fd) (T : Bi mg) (c_law_draw : Cal P w K mg base "_law_draw" 1 ["bag", "size"] (.own 0) [] wDraw) : FnOk P w K mg base CX0 2 f fd ["bag", "chosen"] (spD K (.own 0) w_law_cents) := by
  refine Fun_okD F sc_law_cents (fun _ _ _ h => by obtain ⟨_, _, _, e, _, _, _⟩ := h; rw [e]; rfl) fun B cdv A outer s H E hr => ⟨_, (ds_cons (ds_setM 2 0 sc_law_cents.nd rfl (by first | exact Or.inl rfl | exact Or.inr rfl) (by decide) (dm_of (de_int (m := .own 0))))
(ds_cons (ds_if (dt_eq (de_C c_law_draw hr (da_cons (m := .own 0) (de_v 0) (da_cons (m := .own 0) (de_int (m := .own 0)) da_nil))) (de_int (m := .rd)))
(ds_one (ds_setM 2 0 sc_law_cents.nd rfl (by first | exact Or.inl rfl | exact Or.inr rfl) (by decide) (dm_of (de_int (m := .own 0)))))
ds_nil)
(ds_cons (ds_setM 3 2 sc_law_cents.nd rfl (by first | exact Or.inl rfl | exact Or.inr rfl) (by decide) (dm_of (de_lst 1 (da_cons (m := .own 1) (de_dnewT 0) (da_cons (m := .own 1) (de_dnewT 0) (da_cons (m := .own 1) (de_dnewT 0) da_nil))))))
(ds_cons (ds_for PassesOwn.never rfl (di_range T.range_ (de_len (m := .rd) T.len_ (de_v 1))) (dg_name 4 sc_law_cents.nd rfl (by first | exact Or.inl rfl | exact Or.inr rfl) (by decide))
(ds_cons (ds_setM 5 0 sc_law_cents.nd rfl (by first | exact Or.inl rfl | exact Or.inr rfl) (by decide) (dm_of (de_C c_law_draw hr (da_cons (m := .own 0) (de_v 0) (da_cons (m := .own 0) (de_add (m := .own 0) (de_v 2) (de_int (m := .rd))) da_nil)))))
(ds_cons (ds_if (dt_eq (de_v 4) (de_int (m := .rd)))
(ds_one (ds_setM 5 0 sc_law_cents.nd rfl (by first | exact Or.inl rfl | exact Or.inr rfl) (by decide) (dm_of (de_max2 (m := .own 0) rfl T.max_ (de_int (m := .rd)) (de_v 5)))))
ds_nil)
(ds_cons (ds_setM 6 0 sc_law_cents.nd rfl (by first | exact Or.inl rfl | exact Or.inr rfl) (by decide) (dm_of (de_C c_law_draw hr (da_cons (m := .own 0) (de_v 0) (da_cons (m := .own 0) (de_add (m := .own 0) (de_v 5) (de_int (m := .rd))) da_nil)))))
(ds_cons (ds_if (dt_eq (de_v 4) (de_int (m := .rd)))
(ds_one (ds_setM 6 0 sc_law_cents.nd rfl (by first | exact Or.inl rfl | exact Or.inr rfl) (by decide) (dm_of (de_mod (m := .own 0) (de_int' (m := .rd) T.int_ (de_v 6)) (de_v 5)))))
ds_nil)
(ds_cons (ds_putP (hr.u 1) (dm_of (de_v 5)) (dp_ix (dp_var 3) (de_int (m := .own 0))) (de_at (de_v 1) (de_v 4)))
(ds_cons (ds_putP (hr.u 1) (dm_of (de_C c_law_draw hr (da_cons (m := .own 0) (de_v 0) (da_cons (m := .own 0) (de_add (m := .own 0) (de_v 5) (de_int (m := .rd))) da_nil)))) (dp_ix (dp_var 3) (de_int (m := .own 0))) (de_at (de_v 1) (de_v 4)))
(ds_one (ds_putP (hr.u 1) (dm_of (de_v 6)) (dp_ix (dp_var 3) (de_int (m := .own 0))) (de_at (de_v 1) (de_v 4)))))))))))
(ds_one (ds_frz 3 (ds_retM (dm_of (de_v 3))))))))), fun ds R ⟨b, ws, hb, e, h13, okw, hR⟩ => ?_⟩
  subst e
  try simp only [ownLst, ownObj, mTake, mOf, fAndV, fOrV, fArgs, fCons, fNil, fVar_0, fVar_s, fUn, fBin, fBool, startE, envOf, slot, gSeq, frzE, gComp, gCompD, wipe_nil, wipe_cons, List.map_cons, List.map_nil, List.cons_append, List.nil_append, List.append_nil, true_and, and_true, List.set_cons_zero, List.set_cons_succ, List.length_cons, List.length_nil, List.replicate_succ, List.replicate_zero, Nat.reduceSub, Nat.reduceAdd, Nat.reduceLT, DEnds.fn, bOf_bl, eq_self, reduceIte, Bool.false_eq_true, gNotV_bl, Bool.not_true, Bool.not_false, g2I_int, g2I0_int, g1I_int, gLen_lst, gLen_tup, gInt_int, gMax2_int, gMin2_int, gIsN_non, gIsN_obj, gIsN_dT, gIsN_dK, gIsN_int, xsOf_lst, tsOf_tup, gIx_t0, gIx_t1, gIx_l0, gIx_l1, gIx_l2, iOf_int, gSlS_str, gCatS_str, gRepS_str, gFind_str, gEqA_int, gEqA_str, gEqA_bl, gTup, gLst, Option.isSome_some, Bool.false_xor, Bool.true_xor, gFor]
  have t00 : Tab0 [] := ⟨⟨fun e h => (by cases h), List.nodup_nil, Nat.zero_le _⟩, fun e h => (by cases h)⟩
  refine draw_go hb (by decide) (by decide) fun r0 _ _ => ?_
  try simp only [ownLst, ownObj, mTake, mOf, fAndV, fOrV, fArgs, fCons, fNil, fVar_0, fVar_s, fUn, fBin, fBool, startE, envOf, slot, gSeq, frzE, gComp, gCompD, wipe_nil, wipe_cons, List.map_cons, List.map_nil, List.cons_append, List.nil_append, List.append_nil, true_and, and_true, List.set_cons_zero, List.set_cons_succ, List.length_cons, List.length_nil, List.replicate_succ, List.replicate_zero, Nat.reduceSub, Nat.reduceAdd, Nat.reduceLT, DEnds.fn, bOf_bl, eq_self, reduceIte, Bool.false_eq_true, gNotV_bl, Bool.not_true, Bool.not_false, g2I_int, g2I0_int, g1I_int, gLen_lst, gLen_tup, gInt_int, gMax2_int, gMin2_int, gIsN_non, gIsN_obj, gIsN_dT, gIsN_dK, gIsN_int, xsOf_lst, tsOf_tup, gIx_t0, gIx_t1, gIx_l0, gIx_l1, gIx_l2, iOf_int, gSlS_str, gCatS_str, gRepS_str, gFind_str, gEqA_int, gEqA_str, gEqA_bl, gTup, gLst, Option.isSome_some, Bool.false_xor, Bool.true_xor, gFor]
  by_cases hr0 : r0 = 0
  case' pos => rw [decide_eq_true hr0]
  case' neg => rw [decide_eq_false hr0]
  all_goals
    try simp only [ownLst, ownObj, mTake, mOf, fAndV, fOrV, fArgs, fCons, fNil, fVar_0, fVar_s, fUn, fBin, fBool, startE, envOf, slot, gSeq, frzE, gComp, gCompD, wipe_nil, wipe_cons, List.map_cons, List.map_nil, List.cons_append, List.nil_append, List.append_nil, true_and, and_true, List.set_cons_zero, List.set_cons_succ, List.length_cons, List.length_nil, List.replicate_succ, List.replicate_zero, Nat.reduceSub, Nat.reduceAdd, Nat.reduceLT, DEnds.fn, bOf_bl, eq_self, reduceIte, Bool.false_eq_true, gNotV_bl, Bool.not_true, Bool.not_false, g2I_int, g2I0_int, g1I_int, gLen_lst, gLen_tup, gInt_int, gMax2_int, gMin2_int, gIsN_non, gIsN_obj, gIsN_dT, gIsN_dK, gIsN_int, xsOf_lst, tsOf_tup, gIx_t0, gIx_t1, gIx_l0, gIx_l1, gIx_l2, iOf_int, gSlS_str, gCatS_str, gRepS_str, gFind_str, gEqA_int, gEqA_str, gEqA_bl, gTup, gLst, Option.isSome_some, Bool.false_xor, Bool.true_xor, gFor]
    rw [List.length_map]
    refine ⟨by decide, by omega, by omega, ?_⟩
    have en : (((ws.length : Nat) : Int)).toNat = ws.length := by omega
    rw [en]
    dsimp only
    refine forD_go (fun xs ρ => ∃ (top : Int) (t0 t1 t2 : List (List Str × Int)) (k c a : Option (Nat × D)) (i : Nat), 0 < top ∧ top < 2 ^ 32 ∧ i ≤ ws.length ∧ xs = ((List.range ws.length).drop i).map (fun j : Nat => D.int (0 + (j : Int))) ∧ Tab0 t0 ∧ Tab0 t1 ∧ Tab0 t2 ∧ t0.length ≤ i ∧ t1.length ≤ i ∧ t2.length ≤ i ∧
      ρ = [some (0, .raw (.ref b)), some (0, .lst (ws.map wayT)), some (0, .int top), some (2, .lst [tabD t0, tabD t1, tabD t2]), k, c, a]) ?_ ?_ _ _ ⟨_, [], [], [], _, _, _, 0, by decide, by decide, Nat.zero_le _, rfl, t00, t00, t00, Nat.zero_le _, Nat.zero_le _, Nat.zero_le _, rfl⟩
    · rintro x r ρ ⟨top, t0, t1, t2, k, c, a, i, htop, htop2, hi, ex, q0, q1, q2, l0, l1, l2, rfl⟩ N hN
      by_cases hlt : i < ws.length
      · have hd : (List.range ws.length).drop i = i :: (List.range ws.length).drop (i + 1) := by
          rw [List.drop_eq_getElem_cons (by rw [List.length_range]; exact hlt), List.getElem_range]
        rw [hd, List.map_cons] at ex
        injection ex with ex1 ex2
        subst ex1
        have ei : (0 : Int) + (i : Int) = (i : Int) := by omega
        rw [ei]
        refine ⟨_, rfl, ?_⟩
        try simp only [ownLst, ownObj, mTake, mOf, fAndV, fOrV, fArgs, fCons, fNil, fVar_0, fVar_s, fUn, fBin, fBool, startE, envOf, slot, gSeq, frzE, gComp, gCompD, wipe_nil, wipe_cons, List.map_cons, List.map_nil, List.cons_append, List.nil_append, List.append_nil, true_and, and_true, List.set_cons_zero, List.set_cons_succ, List.length_cons, List.length_nil, List.replicate_succ, List.replicate_zero, Nat.reduceSub, Nat.reduceAdd, Nat.reduceLT, DEnds.fn, bOf_bl, eq_self, reduceIte, Bool.false_eq_true, gNotV_bl, Bool.not_true, Bool.not_false, g2I_int, g2I0_int, g1I_int, gLen_lst, gLen_tup, gInt_int, gMax2_int, gMin2_int, gIsN_non, gIsN_obj, gIsN_dT, gIsN_dK, gIsN_int, xsOf_lst, tsOf_tup, gIx_t0, gIx_t1, gIx_l0, gIx_l1, gIx_l2, iOf_int, gSlS_str, gCatS_str, gRepS_str, gFind_str, gEqA_int, gEqA_str, gEqA_bl, gTup, gLst, Option.isSome_some, Bool.false_xor, Bool.true_xor, gFor]
        refine draw_go hb (by omega) (by omega) fun c0 c1 c2 => ?_
        try simp only [ownLst, ownObj, mTake, mOf, fAndV, fOrV, fArgs, fCons, fNil, fVar_0, fVar_s, fUn, fBin, fBool, startE, envOf, slot, gSeq, frzE, gComp, gCompD, wipe_nil, wipe_cons, List.map_cons, List.map_nil, List.cons_append, List.nil_append, List.append_nil, true_and, and_true, List.set_cons_zero, List.set_cons_succ, List.length_cons, List.length_nil, List.replicate_succ, List.replicate_zero, Nat.reduceSub, Nat.reduceAdd, Nat.reduceLT, DEnds.fn, bOf_bl, eq_self, reduceIte, Bool.false_eq_true, gNotV_bl, Bool.not_true, Bool.not_false, g2I_int, g2I0_int, g1I_int, gLen_lst, gLen_tup, gInt_int, gMax2_int, gMin2_int, gIsN_non, gIsN_obj, gIsN_dT, gIsN_dK, gIsN_int, xsOf_lst, tsOf_tup, gIx_t0, gIx_t1, gIx_l0, gIx_l1, gIx_l2, iOf_int, gSlS_str, gCatS_str, gRepS_str, gFind_str, gEqA_int, gEqA_str, gEqA_bl, gTup, gLst, Option.isSome_some, Bool.false_xor, Bool.true_xor, gFor]
        have hget : (ws.map wayT)[i]? = some (wayT ws[i]) := by rw [List.getElem?_map, List.getElem?_eq_getElem hlt]; rfl
        have okw := okw ws[i] (List.getElem_mem _)
        by_cases hj : (i : Int) = 0
        case' pos =>
          rw [decide_eq_true hj]
          try simp only [ownLst, ownObj, mTake, mOf, fAndV, fOrV, fArgs, fCons, fNil, fVar_0, fVar_s, fUn, fBin, fBool, startE, envOf, slot, gSeq, frzE, gComp, gCompD, wipe_nil, wipe_cons, List.map_cons, List.map_nil, List.cons_append, List.nil_append, List.append_nil, true_and, and_true, List.set_cons_zero, List.set_cons_succ, List.length_cons, List.length_nil, List.replicate_succ, List.replicate_zero, Nat.reduceSub, Nat.reduceAdd, Nat.reduceLT, DEnds.fn, bOf_bl, eq_self, reduceIte, Bool.false_eq_true, gNotV_bl, Bool.not_true, Bool.not_false, g2I_int, g2I0_int, g1I_int, gLen_lst, gLen_tup, gInt_int, gMax2_int, gMin2_int, gIsN_non, gIsN_obj, gIsN_dT, gIsN_dK, gIsN_int, xsOf_lst, tsOf_tup, gIx_t0, gIx_t1, gIx_l0, gIx_l1, gIx_l2, iOf_int, gSlS_str, gCatS_str, gRepS_str, gFind_str, gEqA_int, gEqA_str, gEqA_bl, gTup, gLst, Option.isSome_some, Bool.false_xor, Bool.true_xor, gFor]
          have g0 : 0 ≤ (if c0 > 1 then c0 else 1 : Int) := by split <;> omega
          have g1 : (if c0 > 1 then c0 else 1 : Int) ≤ 2 ^ 33 := by split <;> omega
          have g2 : 0 < (if c0 > 1 then c0 else 1 : Int) := by split <;> omega
          generalize (if c0 > 1 then c0 else 1 : Int) = cc at g0 g1 g2
          refine draw_go hb (by omega) (by omega) fun a0 a1 a2 => ?_
          try simp only [ownLst, ownObj, mTake, mOf, fAndV, fOrV, fArgs, fCons, fNil, fVar_0, fVar_s, fUn, fBin, fBool, startE, envOf, slot, gSeq, frzE, gComp, gCompD, wipe_nil, wipe_cons, List.map_cons, List.map_nil, List.cons_append, List.nil_append, List.append_nil, true_and, and_true, List.set_cons_zero, List.set_cons_succ, List.length_cons, List.length_nil, List.replicate_succ, List.replicate_zero, Nat.reduceSub, Nat.reduceAdd, Nat.reduceLT, DEnds.fn, bOf_bl, eq_self, reduceIte, Bool.false_eq_true, gNotV_bl, Bool.not_true, Bool.not_false, g2I_int, g2I0_int, g1I_int, gLen_lst, gLen_tup, gInt_int, gMax2_int, gMin2_int, gIsN_non, gIsN_obj, gIsN_dT, gIsN_dK, gIsN_int, xsOf_lst, tsOf_tup, gIx_t0, gIx_t1, gIx_l0, gIx_l1, gIx_l2, iOf_int, gSlS_str, gCatS_str, gRepS_str, gFind_str, gEqA_int, gEqA_str, gEqA_bl, gTup, gLst, Option.isSome_some, Bool.false_xor, Bool.true_xor, gFor]
          refine ⟨g2, ?_⟩
          have g3 : 0 ≤ a0 % cc := Int.emod_nonneg _ (by omega)
          generalize a0 % cc = aa at g3
        case' neg =>
          rw [decide_eq_false hj]
          try simp only [ownLst, ownObj, mTake, mOf, fAndV, fOrV, fArgs, fCons, fNil, fVar_0, fVar_s, fUn, fBin, fBool, startE, envOf, slot, gSeq, frzE, gComp, gCompD, wipe_nil, wipe_cons, List.map_cons, List.map_nil, List.cons_append, List.nil_append, List.append_nil, true_and, and_true, List.set_cons_zero, List.set_cons_succ, List.length_cons, List.length_nil, List.replicate_succ, List.replicate_zero, Nat.reduceSub, Nat.reduceAdd, Nat.reduceLT, DEnds.fn, bOf_bl, eq_self, reduceIte, Bool.false_eq_true, gNotV_bl, Bool.not_true, Bool.not_false, g2I_int, g2I0_int, g1I_int, gLen_lst, gLen_tup, gInt_int, gMax2_int, gMin2_int, gIsN_non, gIsN_obj, gIsN_dT, gIsN_dK, gIsN_int, xsOf_lst, tsOf_tup, gIx_t0, gIx_t1, gIx_l0, gIx_l1, gIx_l2, iOf_int, gSlS_str, gCatS_str, gRepS_str, gFind_str, gEqA_int, gEqA_str, gEqA_bl, gTup, gLst, Option.isSome_some, Bool.false_xor, Bool.true_xor, gFor]
          have g0 : 0 ≤ c0 := c1
          have g1 : c0 ≤ 2 ^ 33 := by omega
          generalize c0 = cc at g0 g1
          refine draw_go hb (by omega) (by omega) fun aa a1 a2 => ?_
          try simp only [ownLst, ownObj, mTake, mOf, fAndV, fOrV, fArgs, fCons, fNil, fVar_0, fVar_s, fUn, fBin, fBool, startE, envOf, slot, gSeq, frzE, gComp, gCompD, wipe_nil, wipe_cons, List.map_cons, List.map_nil, List.cons_append, List.nil_append, List.append_nil, true_and, and_true, List.set_cons_zero, List.set_cons_succ, List.length_cons, List.length_nil, List.replicate_succ, List.replicate_zero, Nat.reduceSub, Nat.reduceAdd, Nat.reduceLT, DEnds.fn, bOf_bl, eq_self, reduceIte, Bool.false_eq_true, gNotV_bl, Bool.not_true, Bool.not_false, g2I_int, g2I0_int, g1I_int, gLen_lst, gLen_tup, gInt_int, gMax2_int, gMin2_int, gIsN_non, gIsN_obj, gIsN_dT, gIsN_dK, gIsN_int, xsOf_lst, tsOf_tup, gIx_t0, gIx_t1, gIx_l0, gIx_l1, gIx_l2, iOf_int, gSlS_str, gCatS_str, gRepS_str, gFind_str, gEqA_int, gEqA_str, gEqA_bl, gTup, gLst, Option.isSome_some, Bool.false_xor, Bool.true_xor, gFor]
          have g3 : 0 ≤ aa := a1
        all_goals
          have put : ∀ {t : List (List Str × Int)} (v : Int), Tab0 t → t.length ≤ i → 0 ≤ v → Tab0 (putL t ws[i] v) ∧ (putL t ws[i] v).length ≤ i + 1 := fun {t} v q l hv => by
            have ek := putL_keys t ws[i] v
            have hl : (putL t ws[i] v).length ≤ i + 1 := by
              have := congrArg List.length ek
              rw [List.length_map] at this
              rw [this]
              split <;> simp <;> omega
            refine ⟨⟨⟨fun e he => ?_, ?_, by omega⟩, putL_nn q.nn hv⟩, hl⟩
            · have hm : e.1 ∈ (putL t ws[i] v).map (·.1) := List.mem_map.mpr ⟨e, he, rfl⟩
              rw [ek] at hm
              have hc : e.1 ∈ t.map (·.1) ∨ e.1 = ws[i] := by
                split at hm
                · exact .inl hm
                · exact (List.mem_append.mp hm).imp id fun z => List.mem_singleton.mp z
              rcases hc with z | z
              · obtain ⟨e', he', q'⟩ := List.mem_map.mp z
                rw [← q']; exact q.ok.way e' he'
              · rw [z]; exact okw
            · rw [ek]
              split
              · exact q.ok.nd
              · rename_i hn
                exact List.nodup_append.mpr ⟨q.ok.nd, by simp, fun a ha b hb' e => by
                  rw [List.mem_singleton.mp hb'] at e
                  rw [e] at ha; exact hn ha⟩
          refine ⟨1, _, rfl, rfl, _, 0, 0, rfl, rfl, rfl, gIx_nat hget ⟨0, _, rfl, rfl, rfl, _, putDD_tab (by rw [sz]; omega), ?_⟩⟩
          try simp only [ownLst, ownObj, mTake, mOf, fAndV, fOrV, fArgs, fCons, fNil, fVar_0, fVar_s, fUn, fBin, fBool, startE, envOf, slot, gSeq, frzE, gComp, gCompD, wipe_nil, wipe_cons, List.map_cons, List.map_nil, List.cons_append, List.nil_append, List.append_nil, true_and, and_true, List.set_cons_zero, List.set_cons_succ, List.length_cons, List.length_nil, List.replicate_succ, List.replicate_zero, Nat.reduceSub, Nat.reduceAdd, Nat.reduceLT, DEnds.fn, bOf_bl, eq_self, reduceIte, Bool.false_eq_true, gNotV_bl, Bool.not_true, Bool.not_false, g2I_int, g2I0_int, g1I_int, gLen_lst, gLen_tup, gInt_int, gMax2_int, gMin2_int, gIsN_non, gIsN_obj, gIsN_dT, gIsN_dK, gIsN_int, xsOf_lst, tsOf_tup, gIx_t0, gIx_t1, gIx_l0, gIx_l1, gIx_l2, iOf_int, gSlS_str, gCatS_str, gRepS_str, gFind_str, gEqA_int, gEqA_str, gEqA_bl, gTup, gLst, Option.isSome_some, Bool.false_xor, Bool.true_xor, gFor]
          refine draw_go hb (by omega) (by omega) fun s0 s1 s2 => ?_
          try simp only [ownLst, ownObj, mTake, mOf, fAndV, fOrV, fArgs, fCons, fNil, fVar_0, fVar_s, fUn, fBin, fBool, startE, envOf, slot, gSeq, frzE, gComp, gCompD, wipe_nil, wipe_cons, List.map_cons, List.map_nil, List.cons_append, List.nil_append, List.append_nil, true_and, and_true, List.set_cons_zero, List.set_cons_succ, List.length_cons, List.length_nil, List.replicate_succ, List.replicate_zero, Nat.reduceSub, Nat.reduceAdd, Nat.reduceLT, DEnds.fn, bOf_bl, eq_self, reduceIte, Bool.false_eq_true, gNotV_bl, Bool.not_true, Bool.not_false, g2I_int, g2I0_int, g1I_int, gLen_lst, gLen_tup, gInt_int, gMax2_int, gMin2_int, gIsN_non, gIsN_obj, gIsN_dT, gIsN_dK, gIsN_int, xsOf_lst, tsOf_tup, gIx_t0, gIx_t1, gIx_l0, gIx_l1, gIx_l2, iOf_int, gSlS_str, gCatS_str, gRepS_str, gFind_str, gEqA_int, gEqA_str, gEqA_bl, gTup, gLst, Option.isSome_some, Bool.false_xor, Bool.true_xor, gFor]
          refine ⟨1, _, rfl, rfl, _, 1, 1, rfl, rfl, rfl, gIx_nat hget ⟨0, _, rfl, rfl, rfl, _, putDD_tab (by rw [sz]; omega), ?_⟩⟩
          try simp only [ownLst, ownObj, mTake, mOf, fAndV, fOrV, fArgs, fCons, fNil, fVar_0, fVar_s, fUn, fBin, fBool, startE, envOf, slot, gSeq, frzE, gComp, gCompD, wipe_nil, wipe_cons, List.map_cons, List.map_nil, List.cons_append, List.nil_append, List.append_nil, true_and, and_true, List.set_cons_zero, List.set_cons_succ, List.length_cons, List.length_nil, List.replicate_succ, List.replicate_zero, Nat.reduceSub, Nat.reduceAdd, Nat.reduceLT, DEnds.fn, bOf_bl, eq_self, reduceIte, Bool.false_eq_true, gNotV_bl, Bool.not_true, Bool.not_false, g2I_int, g2I0_int, g1I_int, gLen_lst, gLen_tup, gInt_int, gMax2_int, gMin2_int, gIsN_non, gIsN_obj, gIsN_dT, gIsN_dK, gIsN_int, xsOf_lst, tsOf_tup, gIx_t0, gIx_t1, gIx_l0, gIx_l1, gIx_l2, iOf_int, gSlS_str, gCatS_str, gRepS_str, gFind_str, gEqA_int, gEqA_str, gEqA_bl, gTup, gLst, Option.isSome_some, Bool.false_xor, Bool.true_xor, gFor]
          refine ⟨1, _, rfl, rfl, _, 2, 2, rfl, rfl, rfl, gIx_nat hget ⟨0, _, rfl, rfl, rfl, _, putDD_tab (by rw [sz]; omega), ?_⟩⟩
          try simp only [ownLst, ownObj, mTake, mOf, fAndV, fOrV, fArgs, fCons, fNil, fVar_0, fVar_s, fUn, fBin, fBool, startE, envOf, slot, gSeq, frzE, gComp, gCompD, wipe_nil, wipe_cons, List.map_cons, List.map_nil, List.cons_append, List.nil_append, List.append_nil, true_and, and_true, List.set_cons_zero, List.set_cons_succ, List.length_cons, List.length_nil, List.replicate_succ, List.replicate_zero, Nat.reduceSub, Nat.reduceAdd, Nat.reduceLT, DEnds.fn, bOf_bl, eq_self, reduceIte, Bool.false_eq_true, gNotV_bl, Bool.not_true, Bool.not_false, g2I_int, g2I0_int, g1I_int, gLen_lst, gLen_tup, gInt_int, gMax2_int, gMin2_int, gIsN_non, gIsN_obj, gIsN_dT, gIsN_dK, gIsN_int, xsOf_lst, tsOf_tup, gIx_t0, gIx_t1, gIx_l0, gIx_l1, gIx_l2, iOf_int, gSlS_str, gCatS_str, gRepS_str, gFind_str, gEqA_int, gEqA_str, gEqA_bl, gTup, gLst, Option.isSome_some, Bool.false_xor, Bool.true_xor, gFor]
          exact hN _ ⟨top, _, _, _, _, _, _, i + 1, htop, htop2, hlt, ex2, (put _ q0 l0 g0).1, (put _ q1 l1 s1).1, (put _ q2 l2 g3).1, (put _ q0 l0 g0).2, (put _ q1 l1 s1).2, (put _ q2 l2 g3).2, rfl⟩
      · exfalso
        have : i = ws.length := by omega
        subst this
        rw [List.drop_eq_nil_of_le (by rw [List.length_range]; exact Nat.le_refl _)] at ex
        cases ex
    · rintro ρ ⟨top, t0, t1, t2, k, c, a, i, htop, htop2, hi, ex, q0, q1, q2, l0, l1, l2, rfl⟩
      try simp only [ownLst, ownObj, mTake, mOf, fAndV, fOrV, fArgs, fCons, fNil, fVar_0, fVar_s, fUn, fBin, fBool, startE, envOf, slot, gSeq, frzE, gComp, gCompD, wipe_nil, wipe_cons, List.map_cons, List.map_nil, List.cons_append, List.nil_append, List.append_nil, true_and, and_true, List.set_cons_zero, List.set_cons_succ, List.length_cons, List.length_nil, List.replicate_succ, List.replicate_zero, Nat.reduceSub, Nat.reduceAdd, Nat.reduceLT, DEnds.fn, bOf_bl, eq_self, reduceIte, Bool.false_eq_true, gNotV_bl, Bool.not_true, Bool.not_false, g2I_int, g2I0_int, g1I_int, gLen_lst, gLen_tup, gInt_int, gMax2_int, gMin2_int, gIsN_non, gIsN_obj, gIsN_dT, gIsN_dK, gIsN_int, xsOf_lst, tsOf_tup, gIx_t0, gIx_t1, gIx_l0, gIx_l1, gIx_l2, iOf_int, gSlS_str, gCatS_str, gRepS_str, gFind_str, gEqA_int, gEqA_str, gEqA_bl, gTup, gLst, Option.isSome_some, Bool.false_xor, Bool.true_xor, gFor]
      exact hR t0 t1 t2 q0 q1 q2
abbrev s_law_chosen : Stmt := topS 13
theorem sc_law_chosen : FnScope ["bag", "funds", "students", "purposes", "places", "ways", "keeps", "fund", "student", "purpose", "place", "held", "chosen", "rest", "k"] ["bag"] (defScope s_law_chosen) := ⟨rfl, rfl, rfl, by decide +kernel, rfl, by decide +kernel, by decide +kernel⟩
theorem ok_law_chosen {f : Addr} {fd : FuncData} (F : Fun K "_law_chosen" "_law_chosen" s_law_chosen f fd) (T : Bi mg) (c_law_draw : Cal P w K mg base "_law_draw" 1 ["bag", "size"] (.own 0) [] wDraw) (c_law_names : Cal P w K mg base "_law_names" 3 ["bag", "count"] (.own 0) [] w_law_names) : FnOk P w K mg base CX0 4 f fd ["bag"] (spD K (.own 0) w_law_chosen) := by
  refine Fun_okD F sc_law_chosen (fun _ _ _ h => by obtain ⟨_, _, e, _⟩ := h; rw [e]; rfl) fun B cdv A outer s H E hr => ⟨_, (ds_cons (ds_setM 1 0 sc_law_chosen.nd rfl (by first | exact Or.inl rfl | exact Or.inr rfl) (by decide) (dm_of (de_C c_law_names hr (da_cons (m := .own 0) (de_v 0) (da_cons (m := .own 0) (de_add (m := .own 0) (de_int (m := .rd)) (de_C c_law_draw hr (da_cons (m := .own 0) (de_v 0) (da_cons (m := .own 0) (de_int (m := .own 0)) da_nil)))) da_nil)))))
(ds_cons (ds_setM 2 0 sc_law_chosen.nd rfl (by first | exact Or.inl rfl | exact Or.inr rfl) (by decide) (dm_of (de_C c_law_names hr (da_cons (m := .own 0) (de_v 0) (da_cons (m := .own 0) (de_add (m := .own 0) (de_int (m := .rd)) (de_C c_law_draw hr (da_cons (m := .own 0) (de_v 0) (da_cons (m := .own 0) (de_int (m := .own 0)) da_nil)))) da_nil)))))
(ds_cons (ds_setM 3 0 sc_law_chosen.nd rfl (by first | exact Or.inl rfl | exact Or.inr rfl) (by decide) (dm_of (de_C c_law_names hr (da_cons (m := .own 0) (de_v 0) (da_cons (m := .own 0) (de_add (m := .own 0) (de_int (m := .rd)) (de_C c_law_draw hr (da_cons (m := .own 0) (de_v 0) (da_cons (m := .own 0) (de_int (m := .own 0)) da_nil)))) da_nil)))))
(ds_cons (ds_setM 4 0 sc_law_chosen.nd rfl (by first | exact Or.inl rfl | exact Or.inr rfl) (by decide) (dm_of (de_C c_law_names hr (da_cons (m := .own 0) (de_v 0) (da_cons (m := .own 0) (de_add (m := .own 0) (de_int (m := .rd)) (de_C c_law_draw hr (da_cons (m := .own 0) (de_v 0) (da_cons (m := .own 0) (de_int (m := .own 0)) da_nil)))) da_nil)))))
(ds_cons (ds_setM 5 1 sc_law_chosen.nd rfl (by first | exact Or.inl rfl | exact Or.inr rfl) (by decide) (dm_of (de_lst 0 da_nil)))
(ds_cons (ds_setM 6 1 sc_law_chosen.nd rfl (by first | exact Or.inl rfl | exact Or.inr rfl) (by decide) (dm_of (de_lst 0 da_nil)))
(ds_cons (ds_for PassesOwn.never rfl (di_list (de_v 1)) (dg_name 7 sc_law_chosen.nd rfl (by first | exact Or.inl rfl | exact Or.inr rfl) (by decide))
(ds_cons (ds_for PassesOwn.never rfl (di_list (de_v 2)) (dg_name 8 sc_law_chosen.nd rfl (by first | exact Or.inl rfl | exact Or.inr rfl) (by decide))
(ds_one (ds_for PassesOwn.never rfl (di_list (de_v 3)) (dg_name 9 sc_law_chosen.nd rfl (by first | exact Or.inl rfl | exact Or.inr rfl) (by decide))
(ds_one (ds_exprM (m := .own 0) (dm_append 5 0 (dm_of (de_tup (da_cons (m := .own 0) (de_str (m := .own 0)) (da_cons (m := .own 0) (de_v 7) (da_cons (m := .own 0) (de_v 8) (da_cons (m := .own 0) (de_v 9) da_nil))))))))))))
(ds_cons (ds_for PassesOwn.never rfl (di_list (de_v 4)) (dg_name 10 sc_law_chosen.nd rfl (by first | exact Or.inl rfl | exact Or.inr rfl) (by decide))
(ds_one (ds_exprM (m := .own 0) (dm_append 5 0 (dm_of (de_tup (da_cons (m := .own 0) (de_str (m := .own 0)) (da_cons (m := .own 0) (de_v 7) (da_cons (m := .own 0) (de_v 10) da_nil)))))))))
(ds_one (ds_for PassesOwn.never rfl (di_list (de_v 1)) (dg_name 11 sc_law_chosen.nd rfl (by first | exact Or.inl rfl | exact Or.inr rfl) (by decide))
(ds_one (ds_exprM (m := .own 0) (dm_append 6 0 (dm_of (de_tup (da_cons (m := .own 0) (de_str (m := .own 0)) (da_cons (m := .own 0) (de_v 7) (da_cons (m := .own 0) (de_v 11) da_nil)))))))))))))
(ds_cons (ds_frz 6 (ds_setM 12 1 sc_law_chosen.nd rfl (by first | exact Or.inl rfl | exact Or.inr rfl) (by decide) (dm_lst1 0 (dm_popAt 5 0 (de_C c_law_draw hr (da_cons (m := .own 0) (de_v 0) (da_cons (m := .own 0) (de_len (m := .own 0) T.len_ (de_var 5 1)) da_nil)))))))
(ds_cons (ds_frz 5 (ds_setM 13 1 sc_law_chosen.nd rfl (by first | exact Or.inl rfl | exact Or.inr rfl) (by decide) (dm_of (de_cat (de_v 5) (de_v 6)))))
(ds_cons (ds_for PassesOwn.never rfl (di_range T.range_ (de_C c_law_draw hr (da_cons (m := .own 0) (de_v 0) (da_cons (m := .own 0) (de_int (m := .own 0)) da_nil)))) (dg_name 14 sc_law_chosen.nd rfl (by first | exact Or.inl rfl | exact Or.inr rfl) (by decide))
(ds_one (ds_if (dt_gt (de_len (m := .rd) T.len_ (de_var 13 1)) (de_int (m := .rd)))
(ds_one (ds_exprM (m := .own 0) (dm_append 12 0 (dm_popAt 13 0 (de_C c_law_draw hr (da_cons (m := .own 0) (de_v 0) (da_cons (m := .own 0) (de_len (m := .own 0) T.len_ (de_var 13 1)) da_nil)))))))
ds_nil)))
(ds_one (ds_frz 12 (ds_retM (dm_of (de_v 12))))))))))))))), fun ds R ⟨b, hb, e, hR⟩ => ?_⟩
  subst e
  try simp only [ownLst, ownObj, mTake, mOf, fAndV, fOrV, fArgs, fCons, fNil, fVar_0, fVar_s, fUn, fBin, fBool, startE, envOf, slot, gSeq, frzE, gComp, gCompD, wipe_nil, wipe_cons, List.map_cons, List.map_nil, List.cons_append, List.nil_append, List.append_nil, true_and, and_true, List.set_cons_zero, List.set_cons_succ, List.length_cons, List.length_nil, List.replicate_succ, List.replicate_zero, Nat.reduceSub, Nat.reduceAdd, Nat.reduceLT, DEnds.fn, bOf_bl, eq_self, reduceIte, Bool.false_eq_true, gNotV_bl, Bool.not_true, Bool.not_false, g2I_int, g2I0_int, g1I_int, gLen_lst, gLen_tup, gInt_int, gMax2_int, gMin2_int, gIsN_non, gIsN_obj, gIsN_dT, gIsN_dK, gIsN_int, xsOf_lst, tsOf_tup, gIx_t0, gIx_t1, gIx_l0, gIx_l1, gIx_l2, iOf_int, gSlS_str, gCatS_str, gRepS_str, gFind_str, gEqA_int, gEqA_str, gEqA_bl, gTup, gLst, Option.isSome_some, Bool.false_xor, Bool.true_xor, gFor]
  refine draw_go hb (by decide) (by decide) fun r0 a0 b0 => ?_
  refine ⟨b, 1 + r0, hb, rfl, by omega, by omega, fun fs lf of => ?_⟩
  try simp only [ownLst, ownObj, mTake, mOf, fAndV, fOrV, fArgs, fCons, fNil, fVar_0, fVar_s, fUn, fBin, fBool, startE, envOf, slot, gSeq, frzE, gComp, gCompD, wipe_nil, wipe_cons, List.map_cons, List.map_nil, List.cons_append, List.nil_append, List.append_nil, true_and, and_true, List.set_cons_zero, List.set_cons_succ, List.length_cons, List.length_nil, List.replicate_succ, List.replicate_zero, Nat.reduceSub, Nat.reduceAdd, Nat.reduceLT, DEnds.fn, bOf_bl, eq_self, reduceIte, Bool.false_eq_true, gNotV_bl, Bool.not_true, Bool.not_false, g2I_int, g2I0_int, g1I_int, gLen_lst, gLen_tup, gInt_int, gMax2_int, gMin2_int, gIsN_non, gIsN_obj, gIsN_dT, gIsN_dK, gIsN_int, xsOf_lst, tsOf_tup, gIx_t0, gIx_t1, gIx_l0, gIx_l1, gIx_l2, iOf_int, gSlS_str, gCatS_str, gRepS_str, gFind_str, gEqA_int, gEqA_str, gEqA_bl, gTup, gLst, Option.isSome_some, Bool.false_xor, Bool.true_xor, gFor]
  refine draw_go hb (by decide) (by decide) fun r1 a1 b1 => ?_
  refine ⟨b, 1 + r1, hb, rfl, by omega, by omega, fun ss ls os => ?_⟩
  try simp only [ownLst, ownObj, mTake, mOf, fAndV, fOrV, fArgs, fCons, fNil, fVar_0, fVar_s, fUn, fBin, fBool, startE, envOf, slot, gSeq, frzE, gComp, gCompD, wipe_nil, wipe_cons, List.map_cons, List.map_nil, List.cons_append, List.nil_append, List.append_nil, true_and, and_true, List.set_cons_zero, List.set_cons_succ, List.length_cons, List.length_nil, List.replicate_succ, List.replicate_zero, Nat.reduceSub, Nat.reduceAdd, Nat.reduceLT, DEnds.fn, bOf_bl, eq_self, reduceIte, Bool.false_eq_true, gNotV_bl, Bool.not_true, Bool.not_false, g2I_int, g2I0_int, g1I_int, gLen_lst, gLen_tup, gInt_int, gMax2_int, gMin2_int, gIsN_non, gIsN_obj, gIsN_dT, gIsN_dK, gIsN_int, xsOf_lst, tsOf_tup, gIx_t0, gIx_t1, gIx_l0, gIx_l1, gIx_l2, iOf_int, gSlS_str, gCatS_str, gRepS_str, gFind_str, gEqA_int, gEqA_str, gEqA_bl, gTup, gLst, Option.isSome_some, Bool.false_xor, Bool.true_xor, gFor]
  refine draw_go hb (by decide) (by decide) fun r2 a2 b2 => ?_
  refine ⟨b, 1 + r2, hb, rfl, by omega, by omega, fun us lu ou => ?_⟩
  try simp only [ownLst, ownObj, mTake, mOf, fAndV, fOrV, fArgs, fCons, fNil, fVar_0, fVar_s, fUn, fBin, fBool, startE, envOf, slot, gSeq, frzE, gComp, gCompD, wipe_nil, wipe_cons, List.map_cons, List.map_nil, List.cons_append, List.nil_append, List.append_nil, true_and, and_true, List.set_cons_zero, List.set_cons_succ, List.length_cons, List.length_nil, List.replicate_succ, List.replicate_zero, Nat.reduceSub, Nat.reduceAdd, Nat.reduceLT, DEnds.fn, bOf_bl, eq_self, reduceIte, Bool.false_eq_true, gNotV_bl, Bool.not_true, Bool.not_false, g2I_int, g2I0_int, g1I_int, gLen_lst, gLen_tup, gInt_int, gMax2_int, gMin2_int, gIsN_non, gIsN_obj, gIsN_dT, gIsN_dK, gIsN_int, xsOf_lst, tsOf_tup, gIx_t0, gIx_t1, gIx_l0, gIx_l1, gIx_l2, iOf_int, gSlS_str, gCatS_str, gRepS_str, gFind_str, gEqA_int, gEqA_str, gEqA_bl, gTup, gLst, Option.isSome_some, Bool.false_xor, Bool.true_xor, gFor]
  refine draw_go hb (by decide) (by decide) fun r3 a3 b3 => ?_
  refine ⟨b, 1 + r3, hb, rfl, by omega, by omega, fun ps lp op => ?_⟩
  try simp only [ownLst, ownObj, mTake, mOf, fAndV, fOrV, fArgs, fCons, fNil, fVar_0, fVar_s, fUn, fBin, fBool, startE, envOf, slot, gSeq, frzE, gComp, gCompD, wipe_nil, wipe_cons, List.map_cons, List.map_nil, List.cons_append, List.nil_append, List.append_nil, true_and, and_true, List.set_cons_zero, List.set_cons_succ, List.length_cons, List.length_nil, List.replicate_succ, List.replicate_zero, Nat.reduceSub, Nat.reduceAdd, Nat.reduceLT, DEnds.fn, bOf_bl, eq_self, reduceIte, Bool.false_eq_true, gNotV_bl, Bool.not_true, Bool.not_false, g2I_int, g2I0_int, g1I_int, gLen_lst, gLen_tup, gInt_int, gMax2_int, gMin2_int, gIsN_non, gIsN_obj, gIsN_dT, gIsN_dK, gIsN_int, xsOf_lst, tsOf_tup, gIx_t0, gIx_t1, gIx_l0, gIx_l1, gIx_l2, iOf_int, gSlS_str, gCatS_str, gRepS_str, gFind_str, gEqA_int, gEqA_str, gEqA_bl, gTup, gLst, Option.isSome_some, Bool.false_xor, Bool.true_xor, gFor]
  refine ⟨by decide, by decide, ?_⟩
  have kg : strOk "gift" = true := by decide +kernel
  have kd : strOk "draw" = true := by decide +kernel
  have kk : strOk "keep" = true := by decide +kernel
  refine forD_go (fun xs ρ => ∃ (ws ks : List (List Str)) (v7 v8 v9 v10 v11 : Option (Nat × D)) (fr : List Str), xs = fr.map D.str ∧ (∀ s ∈ fr, strOk s = true) ∧ fr.length ≤ 3 ∧ (∀ w ∈ ws, wayOk w) ∧ (∀ w ∈ ks, wayOk w) ∧ ws.length + 50 * fr.length ≤ 150 ∧ ks.length + 50 * fr.length ≤ 150 ∧ (ws ≠ [] ∨ fr ≠ []) ∧
    ρ = [some (0, .raw (.ref b)), some (0, .lst (fs.map .str)), some (0, .lst (ss.map .str)), some (0, .lst (us.map .str)), some (0, .lst (ps.map .str)), some (1, .lst (ws.map wayT)), some (1, .lst (ks.map wayT)), v7, v8, v9, v10, v11, none, none, none]) ?_ ?_ _ _ ⟨[], [], _, _, _, _, _, fs, rfl, of, by omega, fun w h => (by cases h), fun w h => (by cases h), by simp; omega, by simp; omega, .inr (fun z => by rw [z] at lf; simp at lf; omega), rfl⟩
  · rintro x r ρ ⟨ws, ks, v7, v8, v9, v10, v11, fr, ex, ofr, l3, okw, okk, lw, lk, ne, rfl⟩ N hN
    cases fr with
    | nil => cases ex
    | cons f fr =>
      rw [List.map_cons] at ex
      injection ex with ex1 ex2
      subst ex1
      rw [List.length_cons] at l3 lw lk
      have okf := ofr f List.mem_cons_self
      refine ⟨_, rfl, ?_⟩
      try simp only [ownLst, ownObj, mTake, mOf, fAndV, fOrV, fArgs, fCons, fNil, fVar_0, fVar_s, fUn, fBin, fBool, startE, envOf, slot, gSeq, frzE, gComp, gCompD, wipe_nil, wipe_cons, List.map_cons, List.map_nil, List.cons_append, List.nil_append, List.append_nil, true_and, and_true, List.set_cons_zero, List.set_cons_succ, List.length_cons, List.length_nil, List.replicate_succ, List.replicate_zero, Nat.reduceSub, Nat.reduceAdd, Nat.reduceLT, DEnds.fn, bOf_bl, eq_self, reduceIte, Bool.false_eq_true, gNotV_bl, Bool.not_true, Bool.not_false, g2I_int, g2I0_int, g1I_int, gLen_lst, gLen_tup, gInt_int, gMax2_int, gMin2_int, gIsN_non, gIsN_obj, gIsN_dT, gIsN_dK, gIsN_int, xsOf_lst, tsOf_tup, gIx_t0, gIx_t1, gIx_l0, gIx_l1, gIx_l2, iOf_int, gSlS_str, gCatS_str, gRepS_str, gFind_str, gEqA_int, gEqA_str, gEqA_bl, gTup, gLst, Option.isSome_some, Bool.false_xor, Bool.true_xor, gFor]
      refine forD_go (fun xs ρ => ∃ (ws1 : List (List Str)) (v8 v9 : Option (Nat × D)) (sr : List Str), xs = sr.map D.str ∧ (∀ s ∈ sr, strOk s = true) ∧ (∀ w ∈ ws1, wayOk w) ∧ ws1.length + 3 * sr.length ≤ ws.length + 9 ∧
        ρ = [some (0, .raw (.ref b)), some (0, .lst (fs.map .str)), some (0, .lst (ss.map .str)), some (0, .lst (us.map .str)), some (0, .lst (ps.map .str)), some (1, .lst (ws1.map wayT)), some (1, .lst (ks.map wayT)), some (0, .str f), v8, v9, v10, v11, none, none, none]) ?_ ?_ _ _ ⟨ws, _, _, ss, rfl, os, okw, by omega, rfl⟩
      · rintro x2 rr2 ρ2 ⟨ws1, v8, v9, sr, ey, osr, okw1, lw1, rfl⟩ N2 hN2
        cases sr with
        | nil => cases ey
        | cons s sr =>
          rw [List.map_cons] at ey
          injection ey with ey1 ey2
          subst ey1
          rw [List.length_cons] at lw1
          have oks := osr s List.mem_cons_self
          refine ⟨_, rfl, ?_⟩
          try simp only [ownLst, ownObj, mTake, mOf, fAndV, fOrV, fArgs, fCons, fNil, fVar_0, fVar_s, fUn, fBin, fBool, startE, envOf, slot, gSeq, frzE, gComp, gCompD, wipe_nil, wipe_cons, List.map_cons, List.map_nil, List.cons_append, List.nil_append, List.append_nil, true_and, and_true, List.set_cons_zero, List.set_cons_succ, List.length_cons, List.length_nil, List.replicate_succ, List.replicate_zero, Nat.reduceSub, Nat.reduceAdd, Nat.reduceLT, DEnds.fn, bOf_bl, eq_self, reduceIte, Bool.false_eq_true, gNotV_bl, Bool.not_true, Bool.not_false, g2I_int, g2I0_int, g1I_int, gLen_lst, gLen_tup, gInt_int, gMax2_int, gMin2_int, gIsN_non, gIsN_obj, gIsN_dT, gIsN_dK, gIsN_int, xsOf_lst, tsOf_tup, gIx_t0, gIx_t1, gIx_l0, gIx_l1, gIx_l2, iOf_int, gSlS_str, gCatS_str, gRepS_str, gFind_str, gEqA_int, gEqA_str, gEqA_bl, gTup, gLst, Option.isSome_some, Bool.false_xor, Bool.true_xor, gFor]
          refine forD_go (fun xs ρ => ∃ (ws2 : List (List Str)) (v9 : Option (Nat × D)) (ur : List Str), xs = ur.map D.str ∧ (∀ s ∈ ur, strOk s = true) ∧ (∀ w ∈ ws2, wayOk w) ∧ ws2.length + ur.length ≤ ws1.length + 3 ∧
            ρ = [some (0, .raw (.ref b)), some (0, .lst (fs.map .str)), some (0, .lst (ss.map .str)), some (0, .lst (us.map .str)), some (0, .lst (ps.map .str)), some (1, .lst (ws2.map wayT)), some (1, .lst (ks.map wayT)), some (0, .str f), some (0, .str s), v9, v10, v11, none, none, none]) ?_ ?_ _ _ ⟨ws1, _, us, rfl, ou, okw1, by omega, rfl⟩
          · rintro x3 rr3 ρ3 ⟨ws2, v9, ur, ez, our, okw2, lw2, rfl⟩ N3 hN3
            cases ur with
            | nil => cases ez
            | cons u ur =>
              rw [List.map_cons] at ez
              injection ez with ez1 ez2
              subst ez1
              rw [List.length_cons] at lw2
              have oku := our u List.mem_cons_self
              refine ⟨_, rfl, ?_⟩
              try simp only [ownLst, ownObj, mTake, mOf, fAndV, fOrV, fArgs, fCons, fNil, fVar_0, fVar_s, fUn, fBin, fBool, startE, envOf, slot, gSeq, frzE, gComp, gCompD, wipe_nil, wipe_cons, List.map_cons, List.map_nil, List.cons_append, List.nil_append, List.append_nil, true_and, and_true, List.set_cons_zero, List.set_cons_succ, List.length_cons, List.length_nil, List.replicate_succ, List.replicate_zero, Nat.reduceSub, Nat.reduceAdd, Nat.reduceLT, DEnds.fn, bOf_bl, eq_self, reduceIte, Bool.false_eq_true, gNotV_bl, Bool.not_true, Bool.not_false, g2I_int, g2I0_int, g1I_int, gLen_lst, gLen_tup, gInt_int, gMax2_int, gMin2_int, gIsN_non, gIsN_obj, gIsN_dT, gIsN_dK, gIsN_int, xsOf_lst, tsOf_tup, gIx_t0, gIx_t1, gIx_l0, gIx_l1, gIx_l2, iOf_int, gSlS_str, gCatS_str, gRepS_str, gFind_str, gEqA_int, gEqA_str, gEqA_bl, gTup, gLst, Option.isSome_some, Bool.false_xor, Bool.true_xor, gFor]
              refine ⟨by decide, by rw [List.length_map, sz]; omega, hN3 _ ⟨ws2 ++ [[("gift" : Str), f, s, u]], _, ur, ez2, fun y hy => our y (List.mem_cons_of_mem _ hy), fun w hw => ?_, by rw [List.length_append, List.length_singleton]; omega, by rw [List.map_append]; rfl⟩⟩
              rcases List.mem_append.mp hw with z | z
              · exact okw2 w z
              · rw [List.mem_singleton.mp z]
                refine ⟨by simp, fun y hy => ?_⟩
                simp only [List.mem_cons, List.not_mem_nil, or_false] at hy
                rcases hy with hy | hy | hy | hy <;> (rw [hy]; assumption)
          · rintro ρ3 ⟨ws2, v9, ur, ez, our, okw2, lw2, rfl⟩
            cases ur with
            | cons u ur => cases ez
            | nil => exact hN2 _ ⟨ws2, _, _, sr, ey2, fun y hy => osr y (List.mem_cons_of_mem _ hy), okw2, by rw [List.length_nil] at lw2; omega, rfl⟩
      · rintro ρ2 ⟨ws1, v8, v9, sr, ey, osr, okw1, lw1, rfl⟩
        cases sr with
        | cons s sr => cases ey
        | nil =>
          rw [List.length_nil] at lw1
          try simp only [ownLst, ownObj, mTake, mOf, fAndV, fOrV, fArgs, fCons, fNil, fVar_0, fVar_s, fUn, fBin, fBool, startE, envOf, slot, gSeq, frzE, gComp, gCompD, wipe_nil, wipe_cons, List.map_cons, List.map_nil, List.cons_append, List.nil_append, List.append_nil, true_and, and_true, List.set_cons_zero, List.set_cons_succ, List.length_cons, List.length_nil, List.replicate_succ, List.replicate_zero, Nat.reduceSub, Nat.reduceAdd, Nat.reduceLT, DEnds.fn, bOf_bl, eq_self, reduceIte, Bool.false_eq_true, gNotV_bl, Bool.not_true, Bool.not_false, g2I_int, g2I0_int, g1I_int, gLen_lst, gLen_tup, gInt_int, gMax2_int, gMin2_int, gIsN_non, gIsN_obj, gIsN_dT, gIsN_dK, gIsN_int, xsOf_lst, tsOf_tup, gIx_t0, gIx_t1, gIx_l0, gIx_l1, gIx_l2, iOf_int, gSlS_str, gCatS_str, gRepS_str, gFind_str, gEqA_int, gEqA_str, gEqA_bl, gTup, gLst, Option.isSome_some, Bool.false_xor, Bool.true_xor, gFor]
          refine forD_go (fun xs ρ => ∃ (ws2 : List (List Str)) (v10 : Option (Nat × D)) (pr : List Str), xs = pr.map D.str ∧ (∀ s ∈ pr, strOk s = true) ∧ (∀ w ∈ ws2, wayOk w) ∧ ws2.length + pr.length ≤ ws.length + 9 + 2 ∧ (ws2 ≠ [] ∨ pr ≠ []) ∧
            ρ = [some (0, .raw (.ref b)), some (0, .lst (fs.map .str)), some (0, .lst (ss.map .str)), some (0, .lst (us.map .str)), some (0, .lst (ps.map .str)), some (1, .lst (ws2.map wayT)), some (1, .lst (ks.map wayT)), some (0, .str f), v8, v9, v10, v11, none, none, none]) ?_ ?_ _ _ ⟨ws1, _, ps, rfl, op, okw1, by omega, .inr (fun z => by rw [z] at lp; simp at lp; omega), rfl⟩
          · rintro x3 rr3 ρ3 ⟨ws2, v10, pr, ez, opr, okw2, lw2, _, rfl⟩ N3 hN3
            cases pr with
            | nil => cases ez
            | cons p pr =>
              rw [List.map_cons] at ez
              injection ez with ez1 ez2
              subst ez1
              rw [List.length_cons] at lw2
              have okp := opr p List.mem_cons_self
              refine ⟨_, rfl, ?_⟩
              try simp only [ownLst, ownObj, mTake, mOf, fAndV, fOrV, fArgs, fCons, fNil, fVar_0, fVar_s, fUn, fBin, fBool, startE, envOf, slot, gSeq, frzE, gComp, gCompD, wipe_nil, wipe_cons, List.map_cons, List.map_nil, List.cons_append, List.nil_append, List.append_nil, true_and, and_true, List.set_cons_zero, List.set_cons_succ, List.length_cons, List.length_nil, List.replicate_succ, List.replicate_zero, Nat.reduceSub, Nat.reduceAdd, Nat.reduceLT, DEnds.fn, bOf_bl, eq_self, reduceIte, Bool.false_eq_true, gNotV_bl, Bool.not_true, Bool.not_false, g2I_int, g2I0_int, g1I_int, gLen_lst, gLen_tup, gInt_int, gMax2_int, gMin2_int, gIsN_non, gIsN_obj, gIsN_dT, gIsN_dK, gIsN_int, xsOf_lst, tsOf_tup, gIx_t0, gIx_t1, gIx_l0, gIx_l1, gIx_l2, iOf_int, gSlS_str, gCatS_str, gRepS_str, gFind_str, gEqA_int, gEqA_str, gEqA_bl, gTup, gLst, Option.isSome_some, Bool.false_xor, Bool.true_xor, gFor]
              refine ⟨by decide, by rw [List.length_map, sz]; omega, hN3 _ ⟨ws2 ++ [[("draw" : Str), f, p]], _, pr, ez2, fun y hy => opr y (List.mem_cons_of_mem _ hy), fun w hw => ?_, by rw [List.length_append, List.length_singleton]; omega, .inl (by simp), by rw [List.map_append]; rfl⟩⟩
              rcases List.mem_append.mp hw with z | z
              · exact okw2 w z
              · rw [List.mem_singleton.mp z]
                refine ⟨by simp, fun y hy => ?_⟩
                simp only [List.mem_cons, List.not_mem_nil, or_false] at hy
                rcases hy with hy | hy | hy <;> (rw [hy]; assumption)
          · rintro ρ3 ⟨ws2, v10, pr, ez, opr, okw2, lw2, ne2, rfl⟩
            cases pr with
            | cons p pr => cases ez
            | nil =>
              rw [List.length_nil] at lw2
              have ne2 : ws2 ≠ [] := ne2.elim id fun z => absurd rfl z
              try simp only [ownLst, ownObj, mTake, mOf, fAndV, fOrV, fArgs, fCons, fNil, fVar_0, fVar_s, fUn, fBin, fBool, startE, envOf, slot, gSeq, frzE, gComp, gCompD, wipe_nil, wipe_cons, List.map_cons, List.map_nil, List.cons_append, List.nil_append, List.append_nil, true_and, and_true, List.set_cons_zero, List.set_cons_succ, List.length_cons, List.length_nil, List.replicate_succ, List.replicate_zero, Nat.reduceSub, Nat.reduceAdd, Nat.reduceLT, DEnds.fn, bOf_bl, eq_self, reduceIte, Bool.false_eq_true, gNotV_bl, Bool.not_true, Bool.not_false, g2I_int, g2I0_int, g1I_int, gLen_lst, gLen_tup, gInt_int, gMax2_int, gMin2_int, gIsN_non, gIsN_obj, gIsN_dT, gIsN_dK, gIsN_int, xsOf_lst, tsOf_tup, gIx_t0, gIx_t1, gIx_l0, gIx_l1, gIx_l2, iOf_int, gSlS_str, gCatS_str, gRepS_str, gFind_str, gEqA_int, gEqA_str, gEqA_bl, gTup, gLst, Option.isSome_some, Bool.false_xor, Bool.true_xor, gFor]
              refine forD_go (fun xs ρ => ∃ (ks2 : List (List Str)) (v11 : Option (Nat × D)) (hr : List Str), xs = hr.map D.str ∧ (∀ s ∈ hr, strOk s = true) ∧ (∀ w ∈ ks2, wayOk w) ∧ ks2.length + hr.length ≤ ks.length + 3 ∧
                ρ = [some (0, .raw (.ref b)), some (0, .lst (fs.map .str)), some (0, .lst (ss.map .str)), some (0, .lst (us.map .str)), some (0, .lst (ps.map .str)), some (1, .lst (ws2.map wayT)), some (1, .lst (ks2.map wayT)), some (0, .str f), v8, v9, v10, v11, none, none, none]) ?_ ?_ _ _ ⟨ks, _, fs, rfl, of, okk, by omega, rfl⟩
              · rintro x4 rr4 ρ4 ⟨ks2, v11, hr, eh, ohr, okk2, lk2, rfl⟩ N4 hN4
                cases hr with
                | nil => cases eh
                | cons q hr =>
                  rw [List.map_cons] at eh
                  injection eh with eh1 eh2
                  subst eh1
                  rw [List.length_cons] at lk2
                  have okq := ohr q List.mem_cons_self
                  refine ⟨_, rfl, ?_⟩
                  try simp only [ownLst, ownObj, mTake, mOf, fAndV, fOrV, fArgs, fCons, fNil, fVar_0, fVar_s, fUn, fBin, fBool, startE, envOf, slot, gSeq, frzE, gComp, gCompD, wipe_nil, wipe_cons, List.map_cons, List.map_nil, List.cons_append, List.nil_append, List.append_nil, true_and, and_true, List.set_cons_zero, List.set_cons_succ, List.length_cons, List.length_nil, List.replicate_succ, List.replicate_zero, Nat.reduceSub, Nat.reduceAdd, Nat.reduceLT, DEnds.fn, bOf_bl, eq_self, reduceIte, Bool.false_eq_true, gNotV_bl, Bool.not_true, Bool.not_false, g2I_int, g2I0_int, g1I_int, gLen_lst, gLen_tup, gInt_int, gMax2_int, gMin2_int, gIsN_non, gIsN_obj, gIsN_dT, gIsN_dK, gIsN_int, xsOf_lst, tsOf_tup, gIx_t0, gIx_t1, gIx_l0, gIx_l1, gIx_l2, iOf_int, gSlS_str, gCatS_str, gRepS_str, gFind_str, gEqA_int, gEqA_str, gEqA_bl, gTup, gLst, Option.isSome_some, Bool.false_xor, Bool.true_xor, gFor]
                  refine ⟨by decide, by rw [List.length_map, sz]; omega, hN4 _ ⟨ks2 ++ [[("keep" : Str), f, q]], _, hr, eh2, fun y hy => ohr y (List.mem_cons_of_mem _ hy), fun w hw => ?_, by rw [List.length_append, List.length_singleton]; omega, by rw [List.map_append]; rfl⟩⟩
                  rcases List.mem_append.mp hw with z | z
                  · exact okk2 w z
                  · rw [List.mem_singleton.mp z]
                    refine ⟨by simp, fun y hy => ?_⟩
                    simp only [List.mem_cons, List.not_mem_nil, or_false] at hy
                    rcases hy with hy | hy | hy <;> (rw [hy]; assumption)
              · rintro ρ4 ⟨ks2, v11, hr, eh, ohr, okk2, lk2, rfl⟩
                cases hr with
                | cons q hr => cases eh
                | nil =>
                  rw [List.length_nil] at lk2
                  exact hN _ ⟨ws2, ks2, _, _, _, _, _, fr, ex2, fun y hy => ofr y (List.mem_cons_of_mem _ hy), by omega, okw2, okk2, by omega, by omega, .inl ne2, rfl⟩
  · rintro ρ ⟨ws, ks, v7, v8, v9, v10, v11, fr, ex, ofr, l3, okw, okk, lw, lk, ne, rfl⟩
    cases fr with
    | cons f fr => cases ex
    | nil =>
      rw [List.length_nil] at lw lk
      have ne : ws ≠ [] := ne.elim id fun z => absurd rfl z
      have l0 : 0 < ws.length := List.length_pos_iff.mpr ne
      try simp only [ownLst, ownObj, mTake, mOf, fAndV, fOrV, fArgs, fCons, fNil, fVar_0, fVar_s, fUn, fBin, fBool, startE, envOf, slot, gSeq, frzE, gComp, gCompD, wipe_nil, wipe_cons, List.map_cons, List.map_nil, List.cons_append, List.nil_append, List.append_nil, true_and, and_true, List.set_cons_zero, List.set_cons_succ, List.length_cons, List.length_nil, List.replicate_succ, List.replicate_zero, Nat.reduceSub, Nat.reduceAdd, Nat.reduceLT, DEnds.fn, bOf_bl, eq_self, reduceIte, Bool.false_eq_true, gNotV_bl, Bool.not_true, Bool.not_false, g2I_int, g2I0_int, g1I_int, gLen_lst, gLen_tup, gInt_int, gMax2_int, gMin2_int, gIsN_non, gIsN_obj, gIsN_dT, gIsN_dK, gIsN_int, xsOf_lst, tsOf_tup, gIx_t0, gIx_t1, gIx_l0, gIx_l1, gIx_l2, iOf_int, gSlS_str, gCatS_str, gRepS_str, gFind_str, gEqA_int, gEqA_str, gEqA_bl, gTup, gLst, Option.isSome_some, Bool.false_xor, Bool.true_xor, gFor]
      rw [List.length_map]
      refine draw_go hb (by omega) (by omega) fun j h0 h1 => ?_
      have hj : j.toNat < ws.length := by omega
      refine ⟨j, rfl, by omega, by omega, j.toNat, wayT ws[j.toNat], pick_ix h0 h1, by rw [List.getElem?_map, List.getElem?_eq_getElem hj]; rfl, ?_⟩
      rw [erase_map]
      try simp only [ownLst, ownObj, mTake, mOf, fAndV, fOrV, fArgs, fCons, fNil, fVar_0, fVar_s, fUn, fBin, fBool, startE, envOf, slot, gSeq, frzE, gComp, gCompD, wipe_nil, wipe_cons, List.map_cons, List.map_nil, List.cons_append, List.nil_append, List.append_nil, true_and, and_true, List.set_cons_zero, List.set_cons_succ, List.length_cons, List.length_nil, List.replicate_succ, List.replicate_zero, Nat.reduceSub, Nat.reduceAdd, Nat.reduceLT, DEnds.fn, bOf_bl, eq_self, reduceIte, Bool.false_eq_true, gNotV_bl, Bool.not_true, Bool.not_false, g2I_int, g2I0_int, g1I_int, gLen_lst, gLen_tup, gInt_int, gMax2_int, gMin2_int, gIsN_non, gIsN_obj, gIsN_dT, gIsN_dK, gIsN_int, xsOf_lst, tsOf_tup, gIx_t0, gIx_t1, gIx_l0, gIx_l1, gIx_l2, iOf_int, gSlS_str, gCatS_str, gRepS_str, gFind_str, gEqA_int, gEqA_str, gEqA_bl, gTup, gLst, Option.isSome_some, Bool.false_xor, Bool.true_xor, gFor]
      have le : (ws.eraseIdx j.toNat).length ≤ ws.length := by rw [List.length_eraseIdx]; split <;> omega
      have oke : ∀ w ∈ ws.eraseIdx j.toNat, wayOk w := fun w hw => okw w (List.mem_of_mem_eraseIdx hw)
      generalize ws.eraseIdx j.toNat = we at le oke
      have okj : wayOk ws[j.toNat] := okw _ (List.getElem_mem _)
      refine ⟨by rw [List.length_map, List.length_map, sz]; omega, ?_⟩
      refine draw_go hb (by decide) (by decide) fun n n0 n1 => ?_
      refine ⟨by omega, by omega, ?_⟩
      refine forD_go (fun xs ρ => ∃ (ch rs : List (List Str)) (v5 v6 k : Option (Nat × D)) (js : List Nat), xs = js.map (fun j : Nat => D.int (0 + (j : Int))) ∧ (∀ w ∈ ch, wayOk w) ∧ (∀ w ∈ rs, wayOk w) ∧ ch.length + js.length ≤ 13 ∧ rs.length ≤ 300 ∧
        ρ = [some (0, .raw (.ref b)), some (0, .lst (fs.map .str)), some (0, .lst (ss.map .str)), some (0, .lst (us.map .str)), some (0, .lst (ps.map .str)), v5, v6, v7, v8, v9, v10, v11, some (1, .lst (ch.map wayT)), some (1, .lst (rs.map wayT)), k]) ?_ ?_ _ _ ⟨[ws[j.toNat]], we ++ ks, _, _, _, List.range n.toNat, rfl, fun w hw => by rw [List.mem_singleton.mp hw]; exact okj, fun w hw => (List.mem_append.mp hw).elim (oke w) (okk w), by rw [List.length_singleton, List.length_range]; omega, by rw [List.length_append]; omega, by rw [List.map_append]; rfl⟩
      · rintro x r ρ ⟨ch, rs, v5, v6, k, js, ex, okc, okr, lc, lr, rfl⟩ N hN
        cases js with
        | nil => cases ex
        | cons jj js =>
          rw [List.map_cons] at ex
          injection ex with ex1 ex2
          subst ex1
          rw [List.length_cons] at lc
          refine ⟨_, rfl, ?_⟩
          try simp only [ownLst, ownObj, mTake, mOf, fAndV, fOrV, fArgs, fCons, fNil, fVar_0, fVar_s, fUn, fBin, fBool, startE, envOf, slot, gSeq, frzE, gComp, gCompD, wipe_nil, wipe_cons, List.map_cons, List.map_nil, List.cons_append, List.nil_append, List.append_nil, true_and, and_true, List.set_cons_zero, List.set_cons_succ, List.length_cons, List.length_nil, List.replicate_succ, List.replicate_zero, Nat.reduceSub, Nat.reduceAdd, Nat.reduceLT, DEnds.fn, bOf_bl, eq_self, reduceIte, Bool.false_eq_true, gNotV_bl, Bool.not_true, Bool.not_false, g2I_int, g2I0_int, g1I_int, gLen_lst, gLen_tup, gInt_int, gMax2_int, gMin2_int, gIsN_non, gIsN_obj, gIsN_dT, gIsN_dK, gIsN_int, xsOf_lst, tsOf_tup, gIx_t0, gIx_t1, gIx_l0, gIx_l1, gIx_l2, iOf_int, gSlS_str, gCatS_str, gRepS_str, gFind_str, gEqA_int, gEqA_str, gEqA_bl, gTup, gLst, Option.isSome_some, Bool.false_xor, Bool.true_xor, gFor]
          rw [List.length_map]
          by_cases hp : (0 : Int) < (rs.length : Int)
          · rw [decide_eq_true hp]
            try simp only [ownLst, ownObj, mTake, mOf, fAndV, fOrV, fArgs, fCons, fNil, fVar_0, fVar_s, fUn, fBin, fBool, startE, envOf, slot, gSeq, frzE, gComp, gCompD, wipe_nil, wipe_cons, List.map_cons, List.map_nil, List.cons_append, List.nil_append, List.append_nil, true_and, and_true, List.set_cons_zero, List.set_cons_succ, List.length_cons, List.length_nil, List.replicate_succ, List.replicate_zero, Nat.reduceSub, Nat.reduceAdd, Nat.reduceLT, DEnds.fn, bOf_bl, eq_self, reduceIte, Bool.false_eq_true, gNotV_bl, Bool.not_true, Bool.not_false, g2I_int, g2I0_int, g1I_int, gLen_lst, gLen_tup, gInt_int, gMax2_int, gMin2_int, gIsN_non, gIsN_obj, gIsN_dT, gIsN_dK, gIsN_int, xsOf_lst, tsOf_tup, gIx_t0, gIx_t1, gIx_l0, gIx_l1, gIx_l2, iOf_int, gSlS_str, gCatS_str, gRepS_str, gFind_str, gEqA_int, gEqA_str, gEqA_bl, gTup, gLst, Option.isSome_some, Bool.false_xor, Bool.true_xor, gFor]
            refine draw_go hb hp (by omega) fun q q0 q1 => ?_
            have hq : q.toNat < rs.length := by omega
            refine ⟨q, rfl, by omega, by omega, q.toNat, wayT rs[q.toNat], pick_ix q0 q1, by rw [List.getElem?_map, List.getElem?_eq_getElem hq]; rfl, ?_⟩
            rw [erase_map]
            try simp only [ownLst, ownObj, mTake, mOf, fAndV, fOrV, fArgs, fCons, fNil, fVar_0, fVar_s, fUn, fBin, fBool, startE, envOf, slot, gSeq, frzE, gComp, gCompD, wipe_nil, wipe_cons, List.map_cons, List.map_nil, List.cons_append, List.nil_append, List.append_nil, true_and, and_true, List.set_cons_zero, List.set_cons_succ, List.length_cons, List.length_nil, List.replicate_succ, List.replicate_zero, Nat.reduceSub, Nat.reduceAdd, Nat.reduceLT, DEnds.fn, bOf_bl, eq_self, reduceIte, Bool.false_eq_true, gNotV_bl, Bool.not_true, Bool.not_false, g2I_int, g2I0_int, g1I_int, gLen_lst, gLen_tup, gInt_int, gMax2_int, gMin2_int, gIsN_non, gIsN_obj, gIsN_dT, gIsN_dK, gIsN_int, xsOf_lst, tsOf_tup, gIx_t0, gIx_t1, gIx_l0, gIx_l1, gIx_l2, iOf_int, gSlS_str, gCatS_str, gRepS_str, gFind_str, gEqA_int, gEqA_str, gEqA_bl, gTup, gLst, Option.isSome_some, Bool.false_xor, Bool.true_xor, gFor]
            refine ⟨by rw [List.length_map, sz]; omega, hN _ ⟨ch ++ [rs[q.toNat]], rs.eraseIdx q.toNat, _, _, _, js, ex2, fun w hw => ?_, fun w hw => okr w (List.mem_of_mem_eraseIdx hw), by rw [List.length_append, List.length_singleton]; omega, by rw [List.length_eraseIdx]; split <;> omega, by rw [List.map_append]; rfl⟩⟩
            rcases List.mem_append.mp hw with z | z
            · exact okc w z
            · rw [List.mem_singleton.mp z]; exact okr _ (List.getElem_mem _)
          · rw [decide_eq_false hp]
            try simp only [ownLst, ownObj, mTake, mOf, fAndV, fOrV, fArgs, fCons, fNil, fVar_0, fVar_s, fUn, fBin, fBool, startE, envOf, slot, gSeq, frzE, gComp, gCompD, wipe_nil, wipe_cons, List.map_cons, List.map_nil, List.cons_append, List.nil_append, List.append_nil, true_and, and_true, List.set_cons_zero, List.set_cons_succ, List.length_cons, List.length_nil, List.replicate_succ, List.replicate_zero, Nat.reduceSub, Nat.reduceAdd, Nat.reduceLT, DEnds.fn, bOf_bl, eq_self, reduceIte, Bool.false_eq_true, gNotV_bl, Bool.not_true, Bool.not_false, g2I_int, g2I0_int, g1I_int, gLen_lst, gLen_tup, gInt_int, gMax2_int, gMin2_int, gIsN_non, gIsN_obj, gIsN_dT, gIsN_dK, gIsN_int, xsOf_lst, tsOf_tup, gIx_t0, gIx_t1, gIx_l0, gIx_l1, gIx_l2, iOf_int, gSlS_str, gCatS_str, gRepS_str, gFind_str, gEqA_int, gEqA_str, gEqA_bl, gTup, gLst, Option.isSome_some, Bool.false_xor, Bool.true_xor, gFor]
            exact hN _ ⟨ch, rs, _, _, _, js, ex2, okc, okr, by omega, lr, rfl⟩
      · rintro ρ ⟨ch, rs, v5, v6, k, js, ex, okc, okr, lc, lr, rfl⟩
        try simp only [ownLst, ownObj, mTake, mOf, fAndV, fOrV, fArgs, fCons, fNil, fVar_0, fVar_s, fUn, fBin, fBool, startE, envOf, slot, gSeq, frzE, gComp, gCompD, wipe_nil, wipe_cons, List.map_cons, List.map_nil, List.cons_append, List.nil_append, List.append_nil, true_and, and_true, List.set_cons_zero, List.set_cons_succ, List.length_cons, List.length_nil, List.replicate_succ, List.replicate_zero, Nat.reduceSub, Nat.reduceAdd, Nat.reduceLT, DEnds.fn, bOf_bl, eq_self, reduceIte, Bool.false_eq_true, gNotV_bl, Bool.not_true, Bool.not_false, g2I_int, g2I0_int, g1I_int, gLen_lst, gLen_tup, gInt_int, gMax2_int, gMin2_int, gIsN_non, gIsN_obj, gIsN_dT, gIsN_dK, gIsN_int, xsOf_lst, tsOf_tup, gIx_t0, gIx_t1, gIx_l0, gIx_l1, gIx_l2, iOf_int, gSlS_str, gCatS_str, gRepS_str, gFind_str, gEqA_int, gEqA_str, gEqA_bl, gTup, gLst, Option.isSome_some, Bool.false_xor, Bool.true_xor, gFor]
        exact hR ch (by omega) okc
end
end GK

namespace GK
open PySem PySem.Spec PyProof.Rows L2
section
variable {P : Program} {w : World} {K : PySem.W.Frag} {mg : Str → Option Value} {base : Heap}
abbrev s_law : Stmt := topS 22
theorem sc_law : FnScope ["script", "bag", "tables", "table", "plans", "kind", "price", "paid", "paid_plan", "rate", "none", "back", "told", "k"] ["script"] (defScope s_law) := ⟨rfl, rfl, rfl, by decide +kernel, rfl, by decide +kernel, by decide +kernel⟩
theorem ok_law {f fB : Addr} {fd fdB : FuncData} {C_Plan : Addr} (F : Fun K "law" "law" s_law f fd) (T : Bi mg) (FB : FnOk P w K mg base CX0 1 fB fdB ["script"] (spBag K)) (mB : mg "_law_bag" = some (.ref fB)) (kB : PySem.W.keepIn K (.ref fB) = true) (bB : Binds K fdB ["script"] []) (c_Plan_0 : CalK P w K mg base "Plan" C_Plan 1 1 ["self", "cents"] (.own 0) [.non] (w_Plan_init C_Plan)) (c_Plan_rows : CalM P w K mg base C_Plan "rows" 1 ["self"] (.own 0) [] (w_Plan_rows C_Plan)) (c_law_cents : Cal P w K mg base "_law_cents" 2 ["bag", "chosen"] (.own 0) [] w_law_cents) (c_law_chosen : Cal P w K mg base "_law_chosen" 4 ["bag"] (.own 0) [] w_law_chosen) (c_law_cost : Cal P w K mg base "_law_cost" 4 ["old_plan", "new_plan", "paid_plan", "kind", "price"] (.own 0) [] (w_law_cost C_Plan)) (c_law_draw : Cal P w K mg base "_law_draw" 1 ["bag", "size"] (.own 0) [] wDraw) (c_law_due_back : Cal P w K mg base "_law_due_back" 1 ["old", "new"] (.own 0) [] w_law_due_back) (c_law_due_cost : Cal P w K mg base "_law_due_cost" 1 ["old", "paid", "price", "new"] (.own 0) [] w_law_due_cost) (c_law_is : Cal P w K mg base "_law_is" 1 ["told", "due"] (.own 0) [] w_law_is) (c_law_plan : Cal P w K mg base "_law_plan" 3 ["table"] (.own 0) [] (w_law_plan C_Plan)) (c_law_same : Cal P w K mg base "_law_same" 1 ["told", "due"] (.own 0) [] w_law_same) (c_law_stays : Cal P w K mg base "_law_stays" 2 ["plan", "table"] (.own 0) [] (w_law_stays C_Plan)) (c_change_cost_2 : Cal P w K mg base "change_cost" 3 ["old", "new", "sent", "hard"] (.own 0) [.non, .int 5] (w_change_cost C_Plan)) (c_change_cost_k_hard : CalN P w K mg base "change_cost" 3 ["old", "new", "sent", "hard"] (.own 0) 2 ["hard"] (fun xs ys => xs ++ ([.non] ++ ys)) (w_change_cost C_Plan)) (c_taken_back : Cal P w K mg base "taken_back" 2 ["old", "new"] (.own 1) [] (w_taken_back C_Plan)) :
    FnOk P w K mg base CX0 5 f fd ["script"] (spLaw K) := by
  refine F.ok sc_law (fun vs H Q E ⟨a, ns, e, _⟩ => by rw [e]; rfl) fun cdv A outer s H vs Q E hr ⟨a, ns, e, hs, hlen, hO, hq⟩ => ?_
  subst e
  refine ⟨_, pss_cons (ps_set (i := 1) sc_law.nd rfl (Or.inl rfl) (pe_call FB (hr.mono (by decide)) rfl mB kB bB .nil pass0 (pa_cons (pv 0) pa_nil))) (law_rest fun B => (ds_cons (ds_setM 2 0 sc_law.nd rfl (by first | exact Or.inl rfl | exact Or.inr rfl) (by decide) (dm_of (de_C c_law_cents hr (da_cons (m := .own 0) (de_v 1) (da_cons (m := .own 0) (de_C c_law_chosen hr (da_cons (m := .own 0) (de_v 1) da_nil)) da_nil)))))
(ds_cons (ds_setM 4 0 sc_law.nd rfl (by first | exact Or.inl rfl | exact Or.inr rfl) (by decide) (dm_of (de_frz (de_lc (own := [("table", 3)]) 0 rfl sc_law.nd (di_list (de_v 2)) (blk_of ["script", "bag", "tables", "table", "plans", "kind", "price", "paid", "paid_plan", "rate", "none", "back", "told", "k"] (defScope s_law) rfl (by decide +kernel) (by decide +kernel) (by decide +kernel) (by decide +kernel)) (dgc_name 3 sc_law.nd rfl) (hol_cons rfl (fun _ _ => rfl) hol_nil) (fun _ _ _ _ _ => dts_nil) (fun _ _ _ _ _ => (de_C c_law_plan hr (da_cons (m := .own 0) (de_v 3) da_nil)))))))
(ds_cons (ds_setM 5 0 sc_law.nd rfl (by first | exact Or.inl rfl | exact Or.inr rfl) (by decide) (dm_of (de_C c_law_draw hr (da_cons (m := .own 0) (de_v 1) (da_cons (m := .own 0) (de_int (m := .own 0)) da_nil)))))
(ds_cons (ds_setM 6 0 sc_law.nd rfl (by first | exact Or.inl rfl | exact Or.inr rfl) (by decide) (dm_of (de_C c_law_draw hr (da_cons (m := .own 0) (de_v 1) (da_cons (m := .own 0) (de_int (m := .own 0)) da_nil)))))
(ds_cons (ds_if (dt_eq (de_v 6) (de_int (m := .rd)))
(ds_one (ds_setM 6 0 sc_law.nd rfl (by first | exact Or.inl rfl | exact Or.inr rfl) (by decide) (dm_of (de_add (m := .own 0) (de_int (m := .rd)) (de_C c_law_draw hr (da_cons (m := .own 0) (de_v 1) (da_cons (m := .own 0) (de_int (m := .own 0)) da_nil)))))))
ds_nil)
(ds_cons (ds_setM 7 0 sc_law.nd rfl (by first | exact Or.inl rfl | exact Or.inr rfl) (by decide) (dm_of (de_frz (de_dnewT 0))))
(ds_cons (ds_setM 8 0 sc_law.nd rfl (by first | exact Or.inl rfl | exact Or.inr rfl) (by decide) (dm_of (de_non (m := .own 0))))
(ds_cons (ds_if (dt_eq (de_v 5) (de_int (m := .rd)))
(ds_cons (ds_setM 7 0 sc_law.nd rfl (by first | exact Or.inl rfl | exact Or.inr rfl) (by decide) (dm_of (de_at (de_v 2) (de_int (m := .rd)))))
(ds_one (ds_setM 8 0 sc_law.nd rfl (by first | exact Or.inl rfl | exact Or.inr rfl) (by decide) (dm_of (de_at (de_v 4) (de_int (m := .rd)))))))
ds_nil)
(ds_cons (ds_setM 9 0 sc_law.nd rfl (by first | exact Or.inl rfl | exact Or.inr rfl) (by decide) (dm_of (de_v 6)))
(ds_cons (ds_if (dt_eq (de_v 6) (de_int (m := .rd)))
(ds_one (ds_setM 9 0 sc_law.nd rfl (by first | exact Or.inl rfl | exact Or.inr rfl) (by decide) (dm_of (de_int (m := .own 0)))))
ds_nil)
(ds_cons (ds_setM 10 0 sc_law.nd rfl (by first | exact Or.inl rfl | exact Or.inr rfl) (by decide) (dm_of (de_frz (de_Ck0 c_Plan_0 hr))))
(ds_cons (ds_if (dt_not (dt_val (de_C c_law_is hr (da_cons (m := .own 0) (de_C c_law_cost hr (da_cons (m := .own 0) (de_at (de_v 4) (de_int (m := .rd))) (da_cons (m := .own 0) (de_at (de_v 4) (de_int (m := .rd))) (da_cons (m := .own 0) (de_v 8) (da_cons (m := .own 0) (de_v 5) (da_cons (m := .own 0) (de_v 6) da_nil)))))) (da_cons (m := .own 0) (de_C c_law_due_cost hr (da_cons (m := .own 0) (de_at (de_v 2) (de_int (m := .rd))) (da_cons (m := .own 0) (de_v 7) (da_cons (m := .own 0) (de_v 9) (da_cons (m := .own 0) (de_at (de_v 2) (de_int (m := .rd))) da_nil))))) da_nil)))))
(ds_one (ds_retM (dm_of (de_bl (m := .own 0)))))
ds_nil)
(ds_cons (ds_if (dt_not (dt_val (de_C c_law_is hr (da_cons (m := .own 0) (de_C c_law_cost hr (da_cons (m := .own 0) (de_at (de_v 4) (de_int (m := .rd))) (da_cons (m := .own 0) (de_v 10) (da_cons (m := .own 0) (de_v 8) (da_cons (m := .own 0) (de_v 5) (da_cons (m := .own 0) (de_v 6) da_nil)))))) (da_cons (m := .own 0) (de_C c_law_due_cost hr (da_cons (m := .own 0) (de_at (de_v 2) (de_int (m := .rd))) (da_cons (m := .own 0) (de_v 7) (da_cons (m := .own 0) (de_v 9) (da_cons (m := .own 0) (de_frz (de_dnewT 0)) da_nil))))) da_nil)))))
(ds_one (ds_retM (dm_of (de_bl (m := .own 0)))))
ds_nil)
(ds_cons (ds_if (dt_not (dt_val (de_C c_law_is hr (da_cons (m := .own 0) (de_CN c_change_cost_k_hard hr (da_cons (m := .own 0) (de_v 10) (da_cons (m := .own 0) (de_at (de_v 4) (de_int (m := .rd))) da_nil)) (dk_cons (m := .own 0) (de_add (m := .own 0) (de_int (m := .rd)) (de_v 6)) dk_nil)) (da_cons (m := .own 0) (de_int (m := .own 0)) da_nil)))))
(ds_one (ds_retM (dm_of (de_bl (m := .own 0)))))
ds_nil)
(ds_cons (ds_if (dt_not (dt_val (de_C c_law_is hr (da_cons (m := .own 0) (de_C c_change_cost_2 hr (da_cons (m := .own 0) (de_at (de_v 4) (de_int (m := .rd))) (da_cons (m := .own 0) (de_at (de_v 4) (de_int (m := .rd))) da_nil))) (da_cons (m := .own 0) (de_C c_law_due_cost hr (da_cons (m := .own 0) (de_at (de_v 2) (de_int (m := .rd))) (da_cons (m := .own 0) (de_frz (de_dnewT 0)) (da_cons (m := .own 0) (de_int (m := .own 0)) (da_cons (m := .own 0) (de_at (de_v 2) (de_int (m := .rd))) da_nil))))) da_nil)))))
(ds_one (ds_retM (dm_of (de_bl (m := .own 0)))))
ds_nil)
(ds_cons (ds_setM 11 0 sc_law.nd rfl (by first | exact Or.inl rfl | exact Or.inr rfl) (by decide) (dm_of (de_C c_law_due_back hr (da_cons (m := .own 0) (de_at (de_v 2) (de_int (m := .rd))) (da_cons (m := .own 0) (de_at (de_v 2) (de_int (m := .rd))) da_nil)))))
(ds_cons (ds_setM 12 1 sc_law.nd rfl (by first | exact Or.inl rfl | exact Or.inr rfl) (by decide) (dm_of (de_C c_taken_back hr (da_cons (m := .own 0) (de_at (de_v 4) (de_int (m := .rd))) (da_cons (m := .own 0) (de_at (de_v 4) (de_int (m := .rd))) da_nil)))))
(ds_cons (ds_if (dt_not (dt_val (de_CR (n := 0) c_law_same hr (da_cons (m := .rd) (de_rd (de_var 12 1)) (da_cons (m := .rd) (de_rd (de_v 11)) da_nil)))))
(ds_one (ds_retM (dm_of (de_bl (m := .own 0)))))
ds_nil)
(ds_cons (ds_exprM (m := .own 0) (dm_append 12 0 (dm_of (de_tup (da_cons (m := .own 0) (de_tup (da_cons (m := .own 0) (de_str (m := .own 0)) (da_cons (m := .own 0) (de_str (m := .own 0)) (da_cons (m := .own 0) (de_str (m := .own 0)) (da_cons (m := .own 0) (de_str (m := .own 0)) da_nil))))) (da_cons (m := .own 0) (de_int (m := .own 0)) da_nil))))))
(ds_cons (ds_setL 12 0 (dm_of (de_bor0 (de_at (de_var 12 1) (de_neg (m := .rd) (de_int (m := .rd)))))) (de_int (m := .own 0)))
(ds_cons (ds_if (dt_not (dt_val (de_C c_law_same hr (da_cons (m := .own 0) (de_frz (de_C c_taken_back hr (da_cons (m := .own 0) (de_at (de_v 4) (de_int (m := .rd))) (da_cons (m := .own 0) (de_at (de_v 4) (de_int (m := .rd))) da_nil)))) (da_cons (m := .own 0) (de_C c_law_due_back hr (da_cons (m := .own 0) (de_at (de_v 2) (de_int (m := .rd))) (da_cons (m := .own 0) (de_at (de_v 2) (de_int (m := .rd))) da_nil))) da_nil)))))
(ds_one (ds_retM (dm_of (de_bl (m := .own 0)))))
ds_nil)
(ds_cons (ds_if (dt_bool (dw_or (dt_not (dt_val (de_C c_law_same hr (da_cons (m := .own 0) (de_frz (de_C c_taken_back hr (da_cons (m := .own 0) (de_v 10) (da_cons (m := .own 0) (de_at (de_v 4) (de_int (m := .rd))) da_nil)))) (da_cons (m := .own 0) (de_frz (de_lst 0 da_nil)) da_nil))))) (dw_or1 (dt_not (dt_val (de_C c_law_same hr (da_cons (m := .own 0) (de_frz (de_C c_taken_back hr (da_cons (m := .own 0) (de_at (de_v 4) (de_int (m := .rd))) (da_cons (m := .own 0) (de_at (de_v 4) (de_int (m := .rd))) da_nil)))) (da_cons (m := .own 0) (de_v 11) da_nil))))))))
(ds_one (ds_retM (dm_of (de_bl (m := .own 0)))))
ds_nil)
(ds_cons (ds_if (dt_not (dt_val (de_C c_law_same hr (da_cons (m := .own 0) (de_frz (de_C c_taken_back hr (da_cons (m := .own 0) (de_at (de_v 4) (de_int (m := .rd))) (da_cons (m := .own 0) (de_v 10) da_nil)))) (da_cons (m := .own 0) (de_C c_law_due_back hr (da_cons (m := .own 0) (de_at (de_v 2) (de_int (m := .rd))) (da_cons (m := .own 0) (de_frz (de_dnewT 0)) da_nil))) da_nil)))))
(ds_one (ds_retM (dm_of (de_bl (m := .own 0)))))
ds_nil)
(ds_one (ds_retM (dm_of (de_and (m := .own 0) (de_eq (m := .rd) (de_len (m := .rd) T.len_ (de_frz (de_lc (own := [("k", 13)]) 0 rfl sc_law.nd (di_range T.range_ (de_int (m := .rd))) (blk_of ["script", "bag", "tables", "table", "plans", "kind", "price", "paid", "paid_plan", "rate", "none", "back", "told", "k"] (defScope s_law) rfl (by decide +kernel) (by decide +kernel) (by decide +kernel) (by decide +kernel)) (dgc_name 13 sc_law.nd rfl) (hol_cons rfl (fun _ _ => rfl) hol_nil) (fun _ _ _ _ _ => dts_one (dt_not (dt_val (de_C c_law_stays hr (da_cons (m := .own 0) (de_at (de_v 4) (de_v 13)) (da_cons (m := .own 0) (de_at (de_v 2) (de_v 13)) da_nil)))))) (fun _ _ _ _ _ => (de_int (m := .own 0)))))) (de_int (m := .rd))) (de_one (de_C c_law_same hr (da_cons (m := .own 0) (de_Cm0 _ c_Plan_rows hr (de_v 10)) (da_cons (m := .own 0) (de_frz (de_lst 0 da_nil)) da_nil)))))))))))))))))))))))))))))))), ?_⟩
  refine ⟨_, rfl, a, ns, rfl, hs, hlen, fun b c l cells left H' nb n1 n2 n3 l0 l63 le hk hlk h1 h2 h3 => ?_⟩
  refine fun N hN => law_start (n := 12) hO hN nb n1 n2 n3 l0 l63 le hlk h1 h2 h3 (fun B hb => ?_) (fun H2 => hq H2)
  try simp only [ownLst, ownObj, mTake, mOf, fAndV, fOrV, fArgs, fCons, fNil, fVar_0, fVar_s, fUn, fBin, fBool, startE, envOf, slot, gSeq, frzE, gComp, gCompD, wipe_nil, wipe_cons, List.map_cons, List.map_nil, List.cons_append, List.nil_append, List.append_nil, true_and, and_true, List.set_cons_zero, List.set_cons_succ, List.length_cons, List.length_nil, List.replicate_succ, List.replicate_zero, Nat.reduceSub, Nat.reduceAdd, Nat.reduceLT, DEnds.fn, bOf_bl, eq_self, reduceIte, Bool.false_eq_true, gNotV_bl, Bool.not_true, Bool.not_false, g2I_int, g2I0_int, g1I_int, gLen_lst, gLen_tup, gInt_int, gMax2_int, gMin2_int, gIsN_non, gIsN_obj, gIsN_dT, gIsN_dK, gIsN_int, xsOf_lst, tsOf_tup, gIx_t0, gIx_t1, gIx_l0, gIx_l1, gIx_l2, iOf_int, gSlS_str, gCatS_str, gRepS_str, gFind_str, gEqA_int, gEqA_str, gEqA_bl, gTup, gLst, Option.isSome_some, Bool.false_xor, Bool.true_xor, gFor]
  refine ⟨b, hb, rfl, fun ws l13 okw => ?_⟩
  refine ⟨b, ws, hb, rfl, l13, okw, fun t0 t1 t2 q0 q1 q2 => ?_⟩
  try simp only [ownLst, ownObj, mTake, mOf, fAndV, fOrV, fArgs, fCons, fNil, fVar_0, fVar_s, fUn, fBin, fBool, startE, envOf, slot, gSeq, frzE, gComp, gCompD, wipe_nil, wipe_cons, List.map_cons, List.map_nil, List.cons_append, List.nil_append, List.append_nil, true_and, and_true, List.set_cons_zero, List.set_cons_succ, List.length_cons, List.length_nil, List.replicate_succ, List.replicate_zero, Nat.reduceSub, Nat.reduceAdd, Nat.reduceLT, DEnds.fn, bOf_bl, eq_self, reduceIte, Bool.false_eq_true, gNotV_bl, Bool.not_true, Bool.not_false, g2I_int, g2I0_int, g1I_int, gLen_lst, gLen_tup, gInt_int, gMax2_int, gMin2_int, gIsN_non, gIsN_obj, gIsN_dT, gIsN_dK, gIsN_int, xsOf_lst, tsOf_tup, gIx_t0, gIx_t1, gIx_l0, gIx_l1, gIx_l2, iOf_int, gSlS_str, gCatS_str, gRepS_str, gFind_str, gEqA_int, gEqA_str, gEqA_bl, gTup, gLst, Option.isSome_some, Bool.false_xor, Bool.true_xor, gFor]
  refine compD_map (xs := [t0, t1, t2]) tabD (fun t => some (planD C_Plan (pos t))) (fun t ht N hN => ?_) (by show 3 ≤ sizeLine; decide) ?_
  · refine ⟨_, rfl, ?_⟩
    try simp only [ownLst, ownObj, mTake, mOf, fAndV, fOrV, fArgs, fCons, fNil, fVar_0, fVar_s, fUn, fBin, fBool, startE, envOf, slot, gSeq, frzE, gComp, gCompD, wipe_nil, wipe_cons, List.map_cons, List.map_nil, List.cons_append, List.nil_append, List.append_nil, true_and, and_true, List.set_cons_zero, List.set_cons_succ, List.length_cons, List.length_nil, List.replicate_succ, List.replicate_zero, Nat.reduceSub, Nat.reduceAdd, Nat.reduceLT, DEnds.fn, bOf_bl, eq_self, reduceIte, Bool.false_eq_true, gNotV_bl, Bool.not_true, Bool.not_false, g2I_int, g2I0_int, g1I_int, gLen_lst, gLen_tup, gInt_int, gMax2_int, gMin2_int, gIsN_non, gIsN_obj, gIsN_dT, gIsN_dK, gIsN_int, xsOf_lst, tsOf_tup, gIx_t0, gIx_t1, gIx_l0, gIx_l1, gIx_l2, iOf_int, gSlS_str, gCatS_str, gRepS_str, gFind_str, gEqA_int, gEqA_str, gEqA_bl, gTup, gLst, Option.isSome_some, Bool.false_xor, Bool.true_xor, gFor]
    have okt : TabOk t := by
      simp only [List.mem_cons, List.not_mem_nil, or_false] at ht
      rcases ht with rfl | rfl | rfl
      · exact q0.ok
      · exact q1.ok
      · exact q2.ok
    exact ⟨t, rfl, okt, hN⟩
  simp only [List.filterMap_cons, List.filterMap_nil]
  try simp only [ownLst, ownObj, mTake, mOf, fAndV, fOrV, fArgs, fCons, fNil, fVar_0, fVar_s, fUn, fBin, fBool, startE, envOf, slot, gSeq, frzE, gComp, gCompD, wipe_nil, wipe_cons, List.map_cons, List.map_nil, List.cons_append, List.nil_append, List.append_nil, true_and, and_true, List.set_cons_zero, List.set_cons_succ, List.length_cons, List.length_nil, List.replicate_succ, List.replicate_zero, Nat.reduceSub, Nat.reduceAdd, Nat.reduceLT, DEnds.fn, bOf_bl, eq_self, reduceIte, Bool.false_eq_true, gNotV_bl, Bool.not_true, Bool.not_false, g2I_int, g2I0_int, g1I_int, gLen_lst, gLen_tup, gInt_int, gMax2_int, gMin2_int, gIsN_non, gIsN_obj, gIsN_dT, gIsN_dK, gIsN_int, xsOf_lst, tsOf_tup, gIx_t0, gIx_t1, gIx_l0, gIx_l1, gIx_l2, iOf_int, gSlS_str, gCatS_str, gRepS_str, gFind_str, gEqA_int, gEqA_str, gEqA_bl, gTup, gLst, Option.isSome_some, Bool.false_xor, Bool.true_xor, gFor]
  have qe : Tab0 [] := ⟨⟨fun e h => (by cases h), List.nodup_nil, Nat.zero_le _⟩, fun e h => (by cases h)⟩
  refine draw_go hb (by decide) (by decide) fun kd k0 k1 => ?_
  refine draw_go hb (by decide) (by decide) fun pr0 p0 p1 => ?_
  try simp only [ownLst, ownObj, mTake, mOf, fAndV, fOrV, fArgs, fCons, fNil, fVar_0, fVar_s, fUn, fBin, fBool, startE, envOf, slot, gSeq, frzE, gComp, gCompD, wipe_nil, wipe_cons, List.map_cons, List.map_nil, List.cons_append, List.nil_append, List.append_nil, true_and, and_true, List.set_cons_zero, List.set_cons_succ, List.length_cons, List.length_nil, List.replicate_succ, List.replicate_zero, Nat.reduceSub, Nat.reduceAdd, Nat.reduceLT, DEnds.fn, bOf_bl, eq_self, reduceIte, Bool.false_eq_true, gNotV_bl, Bool.not_true, Bool.not_false, g2I_int, g2I0_int, g1I_int, gLen_lst, gLen_tup, gInt_int, gMax2_int, gMin2_int, gIsN_non, gIsN_obj, gIsN_dT, gIsN_dK, gIsN_int, xsOf_lst, tsOf_tup, gIx_t0, gIx_t1, gIx_l0, gIx_l1, gIx_l2, iOf_int, gSlS_str, gCatS_str, gRepS_str, gFind_str, gEqA_int, gEqA_str, gEqA_bl, gTup, gLst, Option.isSome_some, Bool.false_xor, Bool.true_xor, gFor]
  by_cases h9 : pr0 = 9
  · rw [decide_eq_true h9]
    try simp only [ownLst, ownObj, mTake, mOf, fAndV, fOrV, fArgs, fCons, fNil, fVar_0, fVar_s, fUn, fBin, fBool, startE, envOf, slot, gSeq, frzE, gComp, gCompD, wipe_nil, wipe_cons, List.map_cons, List.map_nil, List.cons_append, List.nil_append, List.append_nil, true_and, and_true, List.set_cons_zero, List.set_cons_succ, List.length_cons, List.length_nil, List.replicate_succ, List.replicate_zero, Nat.reduceSub, Nat.reduceAdd, Nat.reduceLT, DEnds.fn, bOf_bl, eq_self, reduceIte, Bool.false_eq_true, gNotV_bl, Bool.not_true, Bool.not_false, g2I_int, g2I0_int, g1I_int, gLen_lst, gLen_tup, gInt_int, gMax2_int, gMin2_int, gIsN_non, gIsN_obj, gIsN_dT, gIsN_dK, gIsN_int, xsOf_lst, tsOf_tup, gIx_t0, gIx_t1, gIx_l0, gIx_l1, gIx_l2, iOf_int, gSlS_str, gCatS_str, gRepS_str, gFind_str, gEqA_int, gEqA_str, gEqA_bl, gTup, gLst, Option.isSome_some, Bool.false_xor, Bool.true_xor, gFor]
    refine draw_go hb (by decide) (by decide) fun pr1 p2 p3 => ?_
    try simp only [ownLst, ownObj, mTake, mOf, fAndV, fOrV, fArgs, fCons, fNil, fVar_0, fVar_s, fUn, fBin, fBool, startE, envOf, slot, gSeq, frzE, gComp, gCompD, wipe_nil, wipe_cons, List.map_cons, List.map_nil, List.cons_append, List.nil_append, List.append_nil, true_and, and_true, List.set_cons_zero, List.set_cons_succ, List.length_cons, List.length_nil, List.replicate_succ, List.replicate_zero, Nat.reduceSub, Nat.reduceAdd, Nat.reduceLT, DEnds.fn, bOf_bl, eq_self, reduceIte, Bool.false_eq_true, gNotV_bl, Bool.not_true, Bool.not_false, g2I_int, g2I0_int, g1I_int, gLen_lst, gLen_tup, gInt_int, gMax2_int, gMin2_int, gIsN_non, gIsN_obj, gIsN_dT, gIsN_dK, gIsN_int, xsOf_lst, tsOf_tup, gIx_t0, gIx_t1, gIx_l0, gIx_l1, gIx_l2, iOf_int, gSlS_str, gCatS_str, gRepS_str, gFind_str, gEqA_int, gEqA_str, gEqA_bl, gTup, gLst, Option.isSome_some, Bool.false_xor, Bool.true_xor, gFor]
    have hp0 : 0 ≤ 9 + pr1 := by omega
    have hp1 : 9 + pr1 < 2 ^ 62 := by omega
    have hpr : ¬ 9 + pr1 = 0 := by omega
    generalize 9 + pr1 = pr at hp0 hp1 hpr
    rw [decide_eq_false hpr]
    try simp only [ownLst, ownObj, mTake, mOf, fAndV, fOrV, fArgs, fCons, fNil, fVar_0, fVar_s, fUn, fBin, fBool, startE, envOf, slot, gSeq, frzE, gComp, gCompD, wipe_nil, wipe_cons, List.map_cons, List.map_nil, List.cons_append, List.nil_append, List.append_nil, true_and, and_true, List.set_cons_zero, List.set_cons_succ, List.length_cons, List.length_nil, List.replicate_succ, List.replicate_zero, Nat.reduceSub, Nat.reduceAdd, Nat.reduceLT, DEnds.fn, bOf_bl, eq_self, reduceIte, Bool.false_eq_true, gNotV_bl, Bool.not_true, Bool.not_false, g2I_int, g2I0_int, g1I_int, gLen_lst, gLen_tup, gInt_int, gMax2_int, gMin2_int, gIsN_non, gIsN_obj, gIsN_dT, gIsN_dK, gIsN_int, xsOf_lst, tsOf_tup, gIx_t0, gIx_t1, gIx_l0, gIx_l1, gIx_l2, iOf_int, gSlS_str, gCatS_str, gRepS_str, gFind_str, gEqA_int, gEqA_str, gEqA_bl, gTup, gLst, Option.isSome_some, Bool.false_xor, Bool.true_xor, gFor]
    by_cases hk : kd = 2
    · rw [decide_eq_true hk]
      try simp only [ownLst, ownObj, mTake, mOf, fAndV, fOrV, fArgs, fCons, fNil, fVar_0, fVar_s, fUn, fBin, fBool, startE, envOf, slot, gSeq, frzE, gComp, gCompD, wipe_nil, wipe_cons, List.map_cons, List.map_nil, List.cons_append, List.nil_append, List.append_nil, true_and, and_true, List.set_cons_zero, List.set_cons_succ, List.length_cons, List.length_nil, List.replicate_succ, List.replicate_zero, Nat.reduceSub, Nat.reduceAdd, Nat.reduceLT, DEnds.fn, bOf_bl, eq_self, reduceIte, Bool.false_eq_true, gNotV_bl, Bool.not_true, Bool.not_false, g2I_int, g2I0_int, g1I_int, gLen_lst, gLen_tup, gInt_int, gMax2_int, gMin2_int, gIsN_non, gIsN_obj, gIsN_dT, gIsN_dK, gIsN_int, xsOf_lst, tsOf_tup, gIx_t0, gIx_t1, gIx_l0, gIx_l1, gIx_l2, iOf_int, gSlS_str, gCatS_str, gRepS_str, gFind_str, gEqA_int, gEqA_str, gEqA_bl, gTup, gLst, Option.isSome_some, Bool.false_xor, Bool.true_xor, gFor]
      refine ⟨[], rfl, .inl ⟨rfl, rfl⟩, qe.ok, rfl, ?_⟩
      refine ⟨pos t0, pos t2, (some (pos t1)), kd, pr, rfl, q0.pos, hp0, hp1, ?_⟩
      refine ⟨t0, t1, pr, t2, rfl, q0.ok, by omega, by omega, ?_⟩
      refine ⟨_, _, rfl, ?_⟩
      rw [decide_eq_true (by rw [if_neg (by omega), if_neg hpr]; exact cost_due q0 q2 (.inr ⟨q1, rfl⟩))]
      try simp only [ownLst, ownObj, mTake, mOf, fAndV, fOrV, fArgs, fCons, fNil, fVar_0, fVar_s, fUn, fBin, fBool, startE, envOf, slot, gSeq, frzE, gComp, gCompD, wipe_nil, wipe_cons, List.map_cons, List.map_nil, List.cons_append, List.nil_append, List.append_nil, true_and, and_true, List.set_cons_zero, List.set_cons_succ, List.length_cons, List.length_nil, List.replicate_succ, List.replicate_zero, Nat.reduceSub, Nat.reduceAdd, Nat.reduceLT, DEnds.fn, bOf_bl, eq_self, reduceIte, Bool.false_eq_true, gNotV_bl, Bool.not_true, Bool.not_false, g2I_int, g2I0_int, g1I_int, gLen_lst, gLen_tup, gInt_int, gMax2_int, gMin2_int, gIsN_non, gIsN_obj, gIsN_dT, gIsN_dK, gIsN_int, xsOf_lst, tsOf_tup, gIx_t0, gIx_t1, gIx_l0, gIx_l1, gIx_l2, iOf_int, gSlS_str, gCatS_str, gRepS_str, gFind_str, gEqA_int, gEqA_str, gEqA_bl, gTup, gLst, Option.isSome_some, Bool.false_xor, Bool.true_xor, gFor]
      refine ⟨pos t0, pos [], (some (pos t1)), kd, pr, rfl, q0.pos, hp0, hp1, ?_⟩
      refine ⟨t0, t1, pr, [], rfl, q0.ok, by omega, by omega, ?_⟩
      refine ⟨_, _, rfl, ?_⟩
      rw [decide_eq_true (by rw [if_neg (by omega), if_neg hpr]; exact cost_due q0 qe (.inr ⟨q1, rfl⟩))]
      try simp only [ownLst, ownObj, mTake, mOf, fAndV, fOrV, fArgs, fCons, fNil, fVar_0, fVar_s, fUn, fBin, fBool, startE, envOf, slot, gSeq, frzE, gComp, gCompD, wipe_nil, wipe_cons, List.map_cons, List.map_nil, List.cons_append, List.nil_append, List.append_nil, true_and, and_true, List.set_cons_zero, List.set_cons_succ, List.length_cons, List.length_nil, List.replicate_succ, List.replicate_zero, Nat.reduceSub, Nat.reduceAdd, Nat.reduceLT, DEnds.fn, bOf_bl, eq_self, reduceIte, Bool.false_eq_true, gNotV_bl, Bool.not_true, Bool.not_false, g2I_int, g2I0_int, g1I_int, gLen_lst, gLen_tup, gInt_int, gMax2_int, gMin2_int, gIsN_non, gIsN_obj, gIsN_dT, gIsN_dK, gIsN_int, xsOf_lst, tsOf_tup, gIx_t0, gIx_t1, gIx_l0, gIx_l1, gIx_l2, iOf_int, gSlS_str, gCatS_str, gRepS_str, gFind_str, gEqA_int, gEqA_str, gEqA_bl, gTup, gLst, Option.isSome_some, Bool.false_xor, Bool.true_xor, gFor]
      refine ⟨pos [], pos t2, none, 1 + pr, rfl, qe.pos, by omega, by omega, ?_⟩
      refine ⟨_, _, rfl, ?_⟩
      rw [decide_eq_true (show costP (pos []) (pos t2) none (1 + pr) = 0 from (cost_due qe q2 (.inl ⟨rfl, rfl⟩)).trans rfl)]
      try simp only [ownLst, ownObj, mTake, mOf, fAndV, fOrV, fArgs, fCons, fNil, fVar_0, fVar_s, fUn, fBin, fBool, startE, envOf, slot, gSeq, frzE, gComp, gCompD, wipe_nil, wipe_cons, List.map_cons, List.map_nil, List.cons_append, List.nil_append, List.append_nil, true_and, and_true, List.set_cons_zero, List.set_cons_succ, List.length_cons, List.length_nil, List.replicate_succ, List.replicate_zero, Nat.reduceSub, Nat.reduceAdd, Nat.reduceLT, DEnds.fn, bOf_bl, eq_self, reduceIte, Bool.false_eq_true, gNotV_bl, Bool.not_true, Bool.not_false, g2I_int, g2I0_int, g1I_int, gLen_lst, gLen_tup, gInt_int, gMax2_int, gMin2_int, gIsN_non, gIsN_obj, gIsN_dT, gIsN_dK, gIsN_int, xsOf_lst, tsOf_tup, gIx_t0, gIx_t1, gIx_l0, gIx_l1, gIx_l2, iOf_int, gSlS_str, gCatS_str, gRepS_str, gFind_str, gEqA_int, gEqA_str, gEqA_bl, gTup, gLst, Option.isSome_some, Bool.false_xor, Bool.true_xor, gFor]
      refine ⟨pos t2, pos t0, none, 5, rfl, q2.pos, by decide, by decide, ?_⟩
      refine ⟨t2, [], 5, t0, rfl, q2.ok, by decide, by decide, ?_⟩
      refine ⟨_, _, rfl, ?_⟩
      rw [decide_eq_true (cost_due q2 q0 (.inl ⟨rfl, rfl⟩))]
      try simp only [ownLst, ownObj, mTake, mOf, fAndV, fOrV, fArgs, fCons, fNil, fVar_0, fVar_s, fUn, fBin, fBool, startE, envOf, slot, gSeq, frzE, gComp, gCompD, wipe_nil, wipe_cons, List.map_cons, List.map_nil, List.cons_append, List.nil_append, List.append_nil, true_and, and_true, List.set_cons_zero, List.set_cons_succ, List.length_cons, List.length_nil, List.replicate_succ, List.replicate_zero, Nat.reduceSub, Nat.reduceAdd, Nat.reduceLT, DEnds.fn, bOf_bl, eq_self, reduceIte, Bool.false_eq_true, gNotV_bl, Bool.not_true, Bool.not_false, g2I_int, g2I0_int, g1I_int, gLen_lst, gLen_tup, gInt_int, gMax2_int, gMin2_int, gIsN_non, gIsN_obj, gIsN_dT, gIsN_dK, gIsN_int, xsOf_lst, tsOf_tup, gIx_t0, gIx_t1, gIx_l0, gIx_l1, gIx_l2, iOf_int, gSlS_str, gCatS_str, gRepS_str, gFind_str, gEqA_int, gEqA_str, gEqA_bl, gTup, gLst, Option.isSome_some, Bool.false_xor, Bool.true_xor, gFor]
      refine ⟨t0, t2, rfl, q0.ok, ?_⟩
      refine ⟨pos t0, pos t2, rfl, q0.pos, ?_⟩
      try simp only [ownLst, ownObj, mTake, mOf, fAndV, fOrV, fArgs, fCons, fNil, fVar_0, fVar_s, fUn, fBin, fBool, startE, envOf, slot, gSeq, frzE, gComp, gCompD, wipe_nil, wipe_cons, List.map_cons, List.map_nil, List.cons_append, List.nil_append, List.append_nil, true_and, and_true, List.set_cons_zero, List.set_cons_succ, List.length_cons, List.length_nil, List.replicate_succ, List.replicate_zero, Nat.reduceSub, Nat.reduceAdd, Nat.reduceLT, DEnds.fn, bOf_bl, eq_self, reduceIte, Bool.false_eq_true, gNotV_bl, Bool.not_true, Bool.not_false, g2I_int, g2I0_int, g1I_int, gLen_lst, gLen_tup, gInt_int, gMax2_int, gMin2_int, gIsN_non, gIsN_obj, gIsN_dT, gIsN_dK, gIsN_int, xsOf_lst, tsOf_tup, gIx_t0, gIx_t1, gIx_l0, gIx_l1, gIx_l2, iOf_int, gSlS_str, gCatS_str, gRepS_str, gFind_str, gEqA_int, gEqA_str, gEqA_bl, gTup, gLst, Option.isSome_some, Bool.false_xor, Bool.true_xor, gFor]
      rw [back_due q0 q2]
      refine ⟨_, _, rfl, dueB_ok q0, dueB_ok q0, dueB_len q0, rfl, ?_⟩
      rw [decide_eq_true rfl]
      try simp only [ownLst, ownObj, mTake, mOf, fAndV, fOrV, fArgs, fCons, fNil, fVar_0, fVar_s, fUn, fBin, fBool, startE, envOf, slot, gSeq, frzE, gComp, gCompD, wipe_nil, wipe_cons, List.map_cons, List.map_nil, List.cons_append, List.nil_append, List.append_nil, true_and, and_true, List.set_cons_zero, List.set_cons_succ, List.length_cons, List.length_nil, List.replicate_succ, List.replicate_zero, Nat.reduceSub, Nat.reduceAdd, Nat.reduceLT, DEnds.fn, bOf_bl, eq_self, reduceIte, Bool.false_eq_true, gNotV_bl, Bool.not_true, Bool.not_false, g2I_int, g2I0_int, g1I_int, gLen_lst, gLen_tup, gInt_int, gMax2_int, gMin2_int, gIsN_non, gIsN_obj, gIsN_dT, gIsN_dK, gIsN_int, xsOf_lst, tsOf_tup, gIx_t0, gIx_t1, gIx_l0, gIx_l1, gIx_l2, iOf_int, gSlS_str, gCatS_str, gRepS_str, gFind_str, gEqA_int, gEqA_str, gEqA_bl, gTup, gLst, Option.isSome_some, Bool.false_xor, Bool.true_xor, gFor]
      refine ⟨by decide, by decide, by rw [List.length_map, sz]; have := dueB_len (n := t2) q0; omega, gIx_last ⟨0, ix_first, ?_⟩⟩
      refine ⟨pos t2, pos t0, rfl, q2.pos, ?_⟩
      refine ⟨t2, t0, rfl, q2.ok, ?_⟩
      rw [back_due q2 q0]
      refine ⟨_, _, rfl, dueB_ok q2, dueB_ok q2, dueB_len q2, ?_⟩
      rw [decide_eq_true rfl]
      try simp only [ownLst, ownObj, mTake, mOf, fAndV, fOrV, fArgs, fCons, fNil, fVar_0, fVar_s, fUn, fBin, fBool, startE, envOf, slot, gSeq, frzE, gComp, gCompD, wipe_nil, wipe_cons, List.map_cons, List.map_nil, List.cons_append, List.nil_append, List.append_nil, true_and, and_true, List.set_cons_zero, List.set_cons_succ, List.length_cons, List.length_nil, List.replicate_succ, List.replicate_zero, Nat.reduceSub, Nat.reduceAdd, Nat.reduceLT, DEnds.fn, bOf_bl, eq_self, reduceIte, Bool.false_eq_true, gNotV_bl, Bool.not_true, Bool.not_false, g2I_int, g2I0_int, g1I_int, gLen_lst, gLen_tup, gInt_int, gMax2_int, gMin2_int, gIsN_non, gIsN_obj, gIsN_dT, gIsN_dK, gIsN_int, xsOf_lst, tsOf_tup, gIx_t0, gIx_t1, gIx_l0, gIx_l1, gIx_l2, iOf_int, gSlS_str, gCatS_str, gRepS_str, gFind_str, gEqA_int, gEqA_str, gEqA_bl, gTup, gLst, Option.isSome_some, Bool.false_xor, Bool.true_xor, gFor]
      refine ⟨pos [], pos t0, rfl, qe.pos, ?_⟩
      rw [back_due qe q0, dueB_nil]
      refine ⟨by decide, [], [], rfl, fun r h => (by cases h), fun r h => (by cases h), by decide, ?_⟩
      rw [decide_eq_true rfl]
      try simp only [ownLst, ownObj, mTake, mOf, fAndV, fOrV, fArgs, fCons, fNil, fVar_0, fVar_s, fUn, fBin, fBool, startE, envOf, slot, gSeq, frzE, gComp, gCompD, wipe_nil, wipe_cons, List.map_cons, List.map_nil, List.cons_append, List.nil_append, List.append_nil, true_and, and_true, List.set_cons_zero, List.set_cons_succ, List.length_cons, List.length_nil, List.replicate_succ, List.replicate_zero, Nat.reduceSub, Nat.reduceAdd, Nat.reduceLT, DEnds.fn, bOf_bl, eq_self, reduceIte, Bool.false_eq_true, gNotV_bl, Bool.not_true, Bool.not_false, g2I_int, g2I0_int, g1I_int, gLen_lst, gLen_tup, gInt_int, gMax2_int, gMin2_int, gIsN_non, gIsN_obj, gIsN_dT, gIsN_dK, gIsN_int, xsOf_lst, tsOf_tup, gIx_t0, gIx_t1, gIx_l0, gIx_l1, gIx_l2, iOf_int, gSlS_str, gCatS_str, gRepS_str, gFind_str, gEqA_int, gEqA_str, gEqA_bl, gTup, gLst, Option.isSome_some, Bool.false_xor, Bool.true_xor, gFor]
      refine ⟨pos t0, pos t2, rfl, q0.pos, ?_⟩
      rw [back_due q0 q2]
      refine ⟨_, _, rfl, dueB_ok q0, dueB_ok q0, dueB_len q0, ?_⟩
      rw [decide_eq_true rfl]
      try simp only [ownLst, ownObj, mTake, mOf, fAndV, fOrV, fArgs, fCons, fNil, fVar_0, fVar_s, fUn, fBin, fBool, startE, envOf, slot, gSeq, frzE, gComp, gCompD, wipe_nil, wipe_cons, List.map_cons, List.map_nil, List.cons_append, List.nil_append, List.append_nil, true_and, and_true, List.set_cons_zero, List.set_cons_succ, List.length_cons, List.length_nil, List.replicate_succ, List.replicate_zero, Nat.reduceSub, Nat.reduceAdd, Nat.reduceLT, DEnds.fn, bOf_bl, eq_self, reduceIte, Bool.false_eq_true, gNotV_bl, Bool.not_true, Bool.not_false, g2I_int, g2I0_int, g1I_int, gLen_lst, gLen_tup, gInt_int, gMax2_int, gMin2_int, gIsN_non, gIsN_obj, gIsN_dT, gIsN_dK, gIsN_int, xsOf_lst, tsOf_tup, gIx_t0, gIx_t1, gIx_l0, gIx_l1, gIx_l2, iOf_int, gSlS_str, gCatS_str, gRepS_str, gFind_str, gEqA_int, gEqA_str, gEqA_bl, gTup, gLst, Option.isSome_some, Bool.false_xor, Bool.true_xor, gFor]
      refine ⟨pos t0, pos [], rfl, q0.pos, ?_⟩
      refine ⟨t0, [], rfl, q0.ok, ?_⟩
      rw [back_due q0 qe]
      refine ⟨_, _, rfl, dueB_ok q0, dueB_ok q0, dueB_len q0, ?_⟩
      rw [decide_eq_true rfl]
      try simp only [ownLst, ownObj, mTake, mOf, fAndV, fOrV, fArgs, fCons, fNil, fVar_0, fVar_s, fUn, fBin, fBool, startE, envOf, slot, gSeq, frzE, gComp, gCompD, wipe_nil, wipe_cons, List.map_cons, List.map_nil, List.cons_append, List.nil_append, List.append_nil, true_and, and_true, List.set_cons_zero, List.set_cons_succ, List.length_cons, List.length_nil, List.replicate_succ, List.replicate_zero, Nat.reduceSub, Nat.reduceAdd, Nat.reduceLT, DEnds.fn, bOf_bl, eq_self, reduceIte, Bool.false_eq_true, gNotV_bl, Bool.not_true, Bool.not_false, g2I_int, g2I0_int, g1I_int, gLen_lst, gLen_tup, gInt_int, gMax2_int, gMin2_int, gIsN_non, gIsN_obj, gIsN_dT, gIsN_dK, gIsN_int, xsOf_lst, tsOf_tup, gIx_t0, gIx_t1, gIx_l0, gIx_l1, gIx_l2, iOf_int, gSlS_str, gCatS_str, gRepS_str, gFind_str, gEqA_int, gEqA_str, gEqA_bl, gTup, gLst, Option.isSome_some, Bool.false_xor, Bool.true_xor, gFor]
      refine ⟨by decide, by decide, ?_⟩
      refine compD_map (xs := List.range 3) (fun j : Nat => D.int (0 + (j : Int))) (fun _ => none) (fun j hj N hN => ?_) (by show 3 ≤ sizeLine; decide) ?_
      · have hj : j < 3 := List.mem_range.mp hj
        have ej : (0 : Int) + (j : Int) = (j : Int) := by omega
        refine ⟨_, rfl, ?_⟩
        rw [ej]
        try simp only [ownLst, ownObj, mTake, mOf, fAndV, fOrV, fArgs, fCons, fNil, fVar_0, fVar_s, fUn, fBin, fBool, startE, envOf, slot, gSeq, frzE, gComp, gCompD, wipe_nil, wipe_cons, List.map_cons, List.map_nil, List.cons_append, List.nil_append, List.append_nil, true_and, and_true, List.set_cons_zero, List.set_cons_succ, List.length_cons, List.length_nil, List.replicate_succ, List.replicate_zero, Nat.reduceSub, Nat.reduceAdd, Nat.reduceLT, DEnds.fn, bOf_bl, eq_self, reduceIte, Bool.false_eq_true, gNotV_bl, Bool.not_true, Bool.not_false, g2I_int, g2I0_int, g1I_int, gLen_lst, gLen_tup, gInt_int, gMax2_int, gMin2_int, gIsN_non, gIsN_obj, gIsN_dT, gIsN_dK, gIsN_int, xsOf_lst, tsOf_tup, gIx_t0, gIx_t1, gIx_l0, gIx_l1, gIx_l2, iOf_int, gSlS_str, gCatS_str, gRepS_str, gFind_str, gEqA_int, gEqA_str, gEqA_bl, gTup, gLst, Option.isSome_some, Bool.false_xor, Bool.true_xor, gFor]
        obtain rfl | rfl | rfl : j = 0 ∨ j = 1 ∨ j = 2 := by omega
        · refine gIx_nat (k := 0) (d := planD C_Plan (pos t0)) rfl ?_
          try simp only [ownLst, ownObj, mTake, mOf, fAndV, fOrV, fArgs, fCons, fNil, fVar_0, fVar_s, fUn, fBin, fBool, startE, envOf, slot, gSeq, frzE, gComp, gCompD, wipe_nil, wipe_cons, List.map_cons, List.map_nil, List.cons_append, List.nil_append, List.append_nil, true_and, and_true, List.set_cons_zero, List.set_cons_succ, List.length_cons, List.length_nil, List.replicate_succ, List.replicate_zero, Nat.reduceSub, Nat.reduceAdd, Nat.reduceLT, DEnds.fn, bOf_bl, eq_self, reduceIte, Bool.false_eq_true, gNotV_bl, Bool.not_true, Bool.not_false, g2I_int, g2I0_int, g1I_int, gLen_lst, gLen_tup, gInt_int, gMax2_int, gMin2_int, gIsN_non, gIsN_obj, gIsN_dT, gIsN_dK, gIsN_int, xsOf_lst, tsOf_tup, gIx_t0, gIx_t1, gIx_l0, gIx_l1, gIx_l2, iOf_int, gSlS_str, gCatS_str, gRepS_str, gFind_str, gEqA_int, gEqA_str, gEqA_bl, gTup, gLst, Option.isSome_some, Bool.false_xor, Bool.true_xor, gFor]
          refine gIx_nat (k := 0) (d := tabD t0) rfl ?_
          refine ⟨t0, rfl, q0, ?_⟩
          try simp only [ownLst, ownObj, mTake, mOf, fAndV, fOrV, fArgs, fCons, fNil, fVar_0, fVar_s, fUn, fBin, fBool, startE, envOf, slot, gSeq, frzE, gComp, gCompD, wipe_nil, wipe_cons, List.map_cons, List.map_nil, List.cons_append, List.nil_append, List.append_nil, true_and, and_true, List.set_cons_zero, List.set_cons_succ, List.length_cons, List.length_nil, List.replicate_succ, List.replicate_zero, Nat.reduceSub, Nat.reduceAdd, Nat.reduceLT, DEnds.fn, bOf_bl, eq_self, reduceIte, Bool.false_eq_true, gNotV_bl, Bool.not_true, Bool.not_false, g2I_int, g2I0_int, g1I_int, gLen_lst, gLen_tup, gInt_int, gMax2_int, gMin2_int, gIsN_non, gIsN_obj, gIsN_dT, gIsN_dK, gIsN_int, xsOf_lst, tsOf_tup, gIx_t0, gIx_t1, gIx_l0, gIx_l1, gIx_l2, iOf_int, gSlS_str, gCatS_str, gRepS_str, gFind_str, gEqA_int, gEqA_str, gEqA_bl, gTup, gLst, Option.isSome_some, Bool.false_xor, Bool.true_xor, gFor]
          exact hN
        · refine gIx_nat (k := 1) (d := planD C_Plan (pos t1)) rfl ?_
          try simp only [ownLst, ownObj, mTake, mOf, fAndV, fOrV, fArgs, fCons, fNil, fVar_0, fVar_s, fUn, fBin, fBool, startE, envOf, slot, gSeq, frzE, gComp, gCompD, wipe_nil, wipe_cons, List.map_cons, List.map_nil, List.cons_append, List.nil_append, List.append_nil, true_and, and_true, List.set_cons_zero, List.set_cons_succ, List.length_cons, List.length_nil, List.replicate_succ, List.replicate_zero, Nat.reduceSub, Nat.reduceAdd, Nat.reduceLT, DEnds.fn, bOf_bl, eq_self, reduceIte, Bool.false_eq_true, gNotV_bl, Bool.not_true, Bool.not_false, g2I_int, g2I0_int, g1I_int, gLen_lst, gLen_tup, gInt_int, gMax2_int, gMin2_int, gIsN_non, gIsN_obj, gIsN_dT, gIsN_dK, gIsN_int, xsOf_lst, tsOf_tup, gIx_t0, gIx_t1, gIx_l0, gIx_l1, gIx_l2, iOf_int, gSlS_str, gCatS_str, gRepS_str, gFind_str, gEqA_int, gEqA_str, gEqA_bl, gTup, gLst, Option.isSome_some, Bool.false_xor, Bool.true_xor, gFor]
          refine gIx_nat (k := 1) (d := tabD t1) rfl ?_
          refine ⟨t1, rfl, q1, ?_⟩
          try simp only [ownLst, ownObj, mTake, mOf, fAndV, fOrV, fArgs, fCons, fNil, fVar_0, fVar_s, fUn, fBin, fBool, startE, envOf, slot, gSeq, frzE, gComp, gCompD, wipe_nil, wipe_cons, List.map_cons, List.map_nil, List.cons_append, List.nil_append, List.append_nil, true_and, and_true, List.set_cons_zero, List.set_cons_succ, List.length_cons, List.length_nil, List.replicate_succ, List.replicate_zero, Nat.reduceSub, Nat.reduceAdd, Nat.reduceLT, DEnds.fn, bOf_bl, eq_self, reduceIte, Bool.false_eq_true, gNotV_bl, Bool.not_true, Bool.not_false, g2I_int, g2I0_int, g1I_int, gLen_lst, gLen_tup, gInt_int, gMax2_int, gMin2_int, gIsN_non, gIsN_obj, gIsN_dT, gIsN_dK, gIsN_int, xsOf_lst, tsOf_tup, gIx_t0, gIx_t1, gIx_l0, gIx_l1, gIx_l2, iOf_int, gSlS_str, gCatS_str, gRepS_str, gFind_str, gEqA_int, gEqA_str, gEqA_bl, gTup, gLst, Option.isSome_some, Bool.false_xor, Bool.true_xor, gFor]
          exact hN
        · refine gIx_nat (k := 2) (d := planD C_Plan (pos t2)) rfl ?_
          try simp only [ownLst, ownObj, mTake, mOf, fAndV, fOrV, fArgs, fCons, fNil, fVar_0, fVar_s, fUn, fBin, fBool, startE, envOf, slot, gSeq, frzE, gComp, gCompD, wipe_nil, wipe_cons, List.map_cons, List.map_nil, List.cons_append, List.nil_append, List.append_nil, true_and, and_true, List.set_cons_zero, List.set_cons_succ, List.length_cons, List.length_nil, List.replicate_succ, List.replicate_zero, Nat.reduceSub, Nat.reduceAdd, Nat.reduceLT, DEnds.fn, bOf_bl, eq_self, reduceIte, Bool.false_eq_true, gNotV_bl, Bool.not_true, Bool.not_false, g2I_int, g2I0_int, g1I_int, gLen_lst, gLen_tup, gInt_int, gMax2_int, gMin2_int, gIsN_non, gIsN_obj, gIsN_dT, gIsN_dK, gIsN_int, xsOf_lst, tsOf_tup, gIx_t0, gIx_t1, gIx_l0, gIx_l1, gIx_l2, iOf_int, gSlS_str, gCatS_str, gRepS_str, gFind_str, gEqA_int, gEqA_str, gEqA_bl, gTup, gLst, Option.isSome_some, Bool.false_xor, Bool.true_xor, gFor]
          refine gIx_nat (k := 2) (d := tabD t2) rfl ?_
          refine ⟨t2, rfl, q2, ?_⟩
          try simp only [ownLst, ownObj, mTake, mOf, fAndV, fOrV, fArgs, fCons, fNil, fVar_0, fVar_s, fUn, fBin, fBool, startE, envOf, slot, gSeq, frzE, gComp, gCompD, wipe_nil, wipe_cons, List.map_cons, List.map_nil, List.cons_append, List.nil_append, List.append_nil, true_and, and_true, List.set_cons_zero, List.set_cons_succ, List.length_cons, List.length_nil, List.replicate_succ, List.replicate_zero, Nat.reduceSub, Nat.reduceAdd, Nat.reduceLT, DEnds.fn, bOf_bl, eq_self, reduceIte, Bool.false_eq_true, gNotV_bl, Bool.not_true, Bool.not_false, g2I_int, g2I0_int, g1I_int, gLen_lst, gLen_tup, gInt_int, gMax2_int, gMin2_int, gIsN_non, gIsN_obj, gIsN_dT, gIsN_dK, gIsN_int, xsOf_lst, tsOf_tup, gIx_t0, gIx_t1, gIx_l0, gIx_l1, gIx_l2, iOf_int, gSlS_str, gCatS_str, gRepS_str, gFind_str, gEqA_int, gEqA_str, gEqA_bl, gTup, gLst, Option.isSome_some, Bool.false_xor, Bool.true_xor, gFor]
          exact hN
      · have e : (List.range 3).filterMap (fun _ => (none : Option D)) = [] := rfl
        rw [e]
        try simp only [ownLst, ownObj, mTake, mOf, fAndV, fOrV, fArgs, fCons, fNil, fVar_0, fVar_s, fUn, fBin, fBool, startE, envOf, slot, gSeq, frzE, gComp, gCompD, wipe_nil, wipe_cons, List.map_cons, List.map_nil, List.cons_append, List.nil_append, List.append_nil, true_and, and_true, List.set_cons_zero, List.set_cons_succ, List.length_cons, List.length_nil, List.replicate_succ, List.replicate_zero, Nat.reduceSub, Nat.reduceAdd, Nat.reduceLT, DEnds.fn, bOf_bl, eq_self, reduceIte, Bool.false_eq_true, gNotV_bl, Bool.not_true, Bool.not_false, g2I_int, g2I0_int, g1I_int, gLen_lst, gLen_tup, gInt_int, gMax2_int, gMin2_int, gIsN_non, gIsN_obj, gIsN_dT, gIsN_dK, gIsN_int, xsOf_lst, tsOf_tup, gIx_t0, gIx_t1, gIx_l0, gIx_l1, gIx_l2, iOf_int, gSlS_str, gCatS_str, gRepS_str, gFind_str, gEqA_int, gEqA_str, gEqA_bl, gTup, gLst, Option.isSome_some, Bool.false_xor, Bool.true_xor, gFor]
        have er : rows (pos []) = [] := by simp [rows, sk, pos]
        refine ⟨⟨rfl, rfl⟩, pos [], rfl, qe.pos, ?_⟩
        rw [er]
        refine ⟨by decide, [], [], rfl, fun r h => (by cases h), fun r h => (by cases h), by decide, ?_⟩
        rw [decide_eq_true rfl]
        exact rfl
    · rw [decide_eq_false hk]
      try simp only [ownLst, ownObj, mTake, mOf, fAndV, fOrV, fArgs, fCons, fNil, fVar_0, fVar_s, fUn, fBin, fBool, startE, envOf, slot, gSeq, frzE, gComp, gCompD, wipe_nil, wipe_cons, List.map_cons, List.map_nil, List.cons_append, List.nil_append, List.append_nil, true_and, and_true, List.set_cons_zero, List.set_cons_succ, List.length_cons, List.length_nil, List.replicate_succ, List.replicate_zero, Nat.reduceSub, Nat.reduceAdd, Nat.reduceLT, DEnds.fn, bOf_bl, eq_self, reduceIte, Bool.false_eq_true, gNotV_bl, Bool.not_true, Bool.not_false, g2I_int, g2I0_int, g1I_int, gLen_lst, gLen_tup, gInt_int, gMax2_int, gMin2_int, gIsN_non, gIsN_obj, gIsN_dT, gIsN_dK, gIsN_int, xsOf_lst, tsOf_tup, gIx_t0, gIx_t1, gIx_l0, gIx_l1, gIx_l2, iOf_int, gSlS_str, gCatS_str, gRepS_str, gFind_str, gEqA_int, gEqA_str, gEqA_bl, gTup, gLst, Option.isSome_some, Bool.false_xor, Bool.true_xor, gFor]
      refine ⟨[], rfl, .inl ⟨rfl, rfl⟩, qe.ok, rfl, ?_⟩
      refine ⟨pos t0, pos t2, none, kd, pr, rfl, q0.pos, hp0, hp1, ?_⟩
      refine ⟨t0, [], pr, t2, rfl, q0.ok, by omega, by omega, ?_⟩
      refine ⟨_, _, rfl, ?_⟩
      rw [decide_eq_true (by rw [ite_self, if_neg hpr]; exact cost_due q0 q2 (.inl ⟨rfl, rfl⟩))]
      try simp only [ownLst, ownObj, mTake, mOf, fAndV, fOrV, fArgs, fCons, fNil, fVar_0, fVar_s, fUn, fBin, fBool, startE, envOf, slot, gSeq, frzE, gComp, gCompD, wipe_nil, wipe_cons, List.map_cons, List.map_nil, List.cons_append, List.nil_append, List.append_nil, true_and, and_true, List.set_cons_zero, List.set_cons_succ, List.length_cons, List.length_nil, List.replicate_succ, List.replicate_zero, Nat.reduceSub, Nat.reduceAdd, Nat.reduceLT, DEnds.fn, bOf_bl, eq_self, reduceIte, Bool.false_eq_true, gNotV_bl, Bool.not_true, Bool.not_false, g2I_int, g2I0_int, g1I_int, gLen_lst, gLen_tup, gInt_int, gMax2_int, gMin2_int, gIsN_non, gIsN_obj, gIsN_dT, gIsN_dK, gIsN_int, xsOf_lst, tsOf_tup, gIx_t0, gIx_t1, gIx_l0, gIx_l1, gIx_l2, iOf_int, gSlS_str, gCatS_str, gRepS_str, gFind_str, gEqA_int, gEqA_str, gEqA_bl, gTup, gLst, Option.isSome_some, Bool.false_xor, Bool.true_xor, gFor]
      refine ⟨pos t0, pos [], none, kd, pr, rfl, q0.pos, hp0, hp1, ?_⟩
      refine ⟨t0, [], pr, [], rfl, q0.ok, by omega, by omega, ?_⟩
      refine ⟨_, _, rfl, ?_⟩
      rw [decide_eq_true (by rw [ite_self, if_neg hpr]; exact cost_due q0 qe (.inl ⟨rfl, rfl⟩))]
      try simp only [ownLst, ownObj, mTake, mOf, fAndV, fOrV, fArgs, fCons, fNil, fVar_0, fVar_s, fUn, fBin, fBool, startE, envOf, slot, gSeq, frzE, gComp, gCompD, wipe_nil, wipe_cons, List.map_cons, List.map_nil, List.cons_append, List.nil_append, List.append_nil, true_and, and_true, List.set_cons_zero, List.set_cons_succ, List.length_cons, List.length_nil, List.replicate_succ, List.replicate_zero, Nat.reduceSub, Nat.reduceAdd, Nat.reduceLT, DEnds.fn, bOf_bl, eq_self, reduceIte, Bool.false_eq_true, gNotV_bl, Bool.not_true, Bool.not_false, g2I_int, g2I0_int, g1I_int, gLen_lst, gLen_tup, gInt_int, gMax2_int, gMin2_int, gIsN_non, gIsN_obj, gIsN_dT, gIsN_dK, gIsN_int, xsOf_lst, tsOf_tup, gIx_t0, gIx_t1, gIx_l0, gIx_l1, gIx_l2, iOf_int, gSlS_str, gCatS_str, gRepS_str, gFind_str, gEqA_int, gEqA_str, gEqA_bl, gTup, gLst, Option.isSome_some, Bool.false_xor, Bool.true_xor, gFor]
      refine ⟨pos [], pos t2, none, 1 + pr, rfl, qe.pos, by omega, by omega, ?_⟩
      refine ⟨_, _, rfl, ?_⟩
      rw [decide_eq_true (show costP (pos []) (pos t2) none (1 + pr) = 0 from (cost_due qe q2 (.inl ⟨rfl, rfl⟩)).trans rfl)]
      try simp only [ownLst, ownObj, mTake, mOf, fAndV, fOrV, fArgs, fCons, fNil, fVar_0, fVar_s, fUn, fBin, fBool, startE, envOf, slot, gSeq, frzE, gComp, gCompD, wipe_nil, wipe_cons, List.map_cons, List.map_nil, List.cons_append, List.nil_append, List.append_nil, true_and, and_true, List.set_cons_zero, List.set_cons_succ, List.length_cons, List.length_nil, List.replicate_succ, List.replicate_zero, Nat.reduceSub, Nat.reduceAdd, Nat.reduceLT, DEnds.fn, bOf_bl, eq_self, reduceIte, Bool.false_eq_true, gNotV_bl, Bool.not_true, Bool.not_false, g2I_int, g2I0_int, g1I_int, gLen_lst, gLen_tup, gInt_int, gMax2_int, gMin2_int, gIsN_non, gIsN_obj, gIsN_dT, gIsN_dK, gIsN_int, xsOf_lst, tsOf_tup, gIx_t0, gIx_t1, gIx_l0, gIx_l1, gIx_l2, iOf_int, gSlS_str, gCatS_str, gRepS_str, gFind_str, gEqA_int, gEqA_str, gEqA_bl, gTup, gLst, Option.isSome_some, Bool.false_xor, Bool.true_xor, gFor]
      refine ⟨pos t2, pos t0, none, 5, rfl, q2.pos, by decide, by decide, ?_⟩
      refine ⟨t2, [], 5, t0, rfl, q2.ok, by decide, by decide, ?_⟩
      refine ⟨_, _, rfl, ?_⟩
      rw [decide_eq_true (cost_due q2 q0 (.inl ⟨rfl, rfl⟩))]
      try simp only [ownLst, ownObj, mTake, mOf, fAndV, fOrV, fArgs, fCons, fNil, fVar_0, fVar_s, fUn, fBin, fBool, startE, envOf, slot, gSeq, frzE, gComp, gCompD, wipe_nil, wipe_cons, List.map_cons, List.map_nil, List.cons_append, List.nil_append, List.append_nil, true_and, and_true, List.set_cons_zero, List.set_cons_succ, List.length_cons, List.length_nil, List.replicate_succ, List.replicate_zero, Nat.reduceSub, Nat.reduceAdd, Nat.reduceLT, DEnds.fn, bOf_bl, eq_self, reduceIte, Bool.false_eq_true, gNotV_bl, Bool.not_true, Bool.not_false, g2I_int, g2I0_int, g1I_int, gLen_lst, gLen_tup, gInt_int, gMax2_int, gMin2_int, gIsN_non, gIsN_obj, gIsN_dT, gIsN_dK, gIsN_int, xsOf_lst, tsOf_tup, gIx_t0, gIx_t1, gIx_l0, gIx_l1, gIx_l2, iOf_int, gSlS_str, gCatS_str, gRepS_str, gFind_str, gEqA_int, gEqA_str, gEqA_bl, gTup, gLst, Option.isSome_some, Bool.false_xor, Bool.true_xor, gFor]
      refine ⟨t0, t2, rfl, q0.ok, ?_⟩
      refine ⟨pos t0, pos t2, rfl, q0.pos, ?_⟩
      try simp only [ownLst, ownObj, mTake, mOf, fAndV, fOrV, fArgs, fCons, fNil, fVar_0, fVar_s, fUn, fBin, fBool, startE, envOf, slot, gSeq, frzE, gComp, gCompD, wipe_nil, wipe_cons, List.map_cons, List.map_nil, List.cons_append, List.nil_append, List.append_nil, true_and, and_true, List.set_cons_zero, List.set_cons_succ, List.length_cons, List.length_nil, List.replicate_succ, List.replicate_zero, Nat.reduceSub, Nat.reduceAdd, Nat.reduceLT, DEnds.fn, bOf_bl, eq_self, reduceIte, Bool.false_eq_true, gNotV_bl, Bool.not_true, Bool.not_false, g2I_int, g2I0_int, g1I_int, gLen_lst, gLen_tup, gInt_int, gMax2_int, gMin2_int, gIsN_non, gIsN_obj, gIsN_dT, gIsN_dK, gIsN_int, xsOf_lst, tsOf_tup, gIx_t0, gIx_t1, gIx_l0, gIx_l1, gIx_l2, iOf_int, gSlS_str, gCatS_str, gRepS_str, gFind_str, gEqA_int, gEqA_str, gEqA_bl, gTup, gLst, Option.isSome_some, Bool.false_xor, Bool.true_xor, gFor]
      rw [back_due q0 q2]
      refine ⟨_, _, rfl, dueB_ok q0, dueB_ok q0, dueB_len q0, rfl, ?_⟩
      rw [decide_eq_true rfl]
      try simp only [ownLst, ownObj, mTake, mOf, fAndV, fOrV, fArgs, fCons, fNil, fVar_0, fVar_s, fUn, fBin, fBool, startE, envOf, slot, gSeq, frzE, gComp, gCompD, wipe_nil, wipe_cons, List.map_cons, List.map_nil, List.cons_append, List.nil_append, List.append_nil, true_and, and_true, List.set_cons_zero, List.set_cons_succ, List.length_cons, List.length_nil, List.replicate_succ, List.replicate_zero, Nat.reduceSub, Nat.reduceAdd, Nat.reduceLT, DEnds.fn, bOf_bl, eq_self, reduceIte, Bool.false_eq_true, gNotV_bl, Bool.not_true, Bool.not_false, g2I_int, g2I0_int, g1I_int, gLen_lst, gLen_tup, gInt_int, gMax2_int, gMin2_int, gIsN_non, gIsN_obj, gIsN_dT, gIsN_dK, gIsN_int, xsOf_lst, tsOf_tup, gIx_t0, gIx_t1, gIx_l0, gIx_l1, gIx_l2, iOf_int, gSlS_str, gCatS_str, gRepS_str, gFind_str, gEqA_int, gEqA_str, gEqA_bl, gTup, gLst, Option.isSome_some, Bool.false_xor, Bool.true_xor, gFor]
      refine ⟨by decide, by decide, by rw [List.length_map, sz]; have := dueB_len (n := t2) q0; omega, gIx_last ⟨0, ix_first, ?_⟩⟩
      refine ⟨pos t2, pos t0, rfl, q2.pos, ?_⟩
      refine ⟨t2, t0, rfl, q2.ok, ?_⟩
      rw [back_due q2 q0]
      refine ⟨_, _, rfl, dueB_ok q2, dueB_ok q2, dueB_len q2, ?_⟩
      rw [decide_eq_true rfl]
      try simp only [ownLst, ownObj, mTake, mOf, fAndV, fOrV, fArgs, fCons, fNil, fVar_0, fVar_s, fUn, fBin, fBool, startE, envOf, slot, gSeq, frzE, gComp, gCompD, wipe_nil, wipe_cons, List.map_cons, List.map_nil, List.cons_append, List.nil_append, List.append_nil, true_and, and_true, List.set_cons_zero, List.set_cons_succ, List.length_cons, List.length_nil, List.replicate_succ, List.replicate_zero, Nat.reduceSub, Nat.reduceAdd, Nat.reduceLT, DEnds.fn, bOf_bl, eq_self, reduceIte, Bool.false_eq_true, gNotV_bl, Bool.not_true, Bool.not_false, g2I_int, g2I0_int, g1I_int, gLen_lst, gLen_tup, gInt_int, gMax2_int, gMin2_int, gIsN_non, gIsN_obj, gIsN_dT, gIsN_dK, gIsN_int, xsOf_lst, tsOf_tup, gIx_t0, gIx_t1, gIx_l0, gIx_l1, gIx_l2, iOf_int, gSlS_str, gCatS_str, gRepS_str, gFind_str, gEqA_int, gEqA_str, gEqA_bl, gTup, gLst, Option.isSome_some, Bool.false_xor, Bool.true_xor, gFor]
      refine ⟨pos [], pos t0, rfl, qe.pos, ?_⟩
      rw [back_due qe q0, dueB_nil]
      refine ⟨by decide, [], [], rfl, fun r h => (by cases h), fun r h => (by cases h), by decide, ?_⟩
      rw [decide_eq_true rfl]
      try simp only [ownLst, ownObj, mTake, mOf, fAndV, fOrV, fArgs, fCons, fNil, fVar_0, fVar_s, fUn, fBin, fBool, startE, envOf, slot, gSeq, frzE, gComp, gCompD, wipe_nil, wipe_cons, List.map_cons, List.map_nil, List.cons_append, List.nil_append, List.append_nil, true_and, and_true, List.set_cons_zero, List.set_cons_succ, List.length_cons, List.length_nil, List.replicate_succ, List.replicate_zero, Nat.reduceSub, Nat.reduceAdd, Nat.reduceLT, DEnds.fn, bOf_bl, eq_self, reduceIte, Bool.false_eq_true, gNotV_bl, Bool.not_true, Bool.not_false, g2I_int, g2I0_int, g1I_int, gLen_lst, gLen_tup, gInt_int, gMax2_int, gMin2_int, gIsN_non, gIsN_obj, gIsN_dT, gIsN_dK, gIsN_int, xsOf_lst, tsOf_tup, gIx_t0, gIx_t1, gIx_l0, gIx_l1, gIx_l2, iOf_int, gSlS_str, gCatS_str, gRepS_str, gFind_str, gEqA_int, gEqA_str, gEqA_bl, gTup, gLst, Option.isSome_some, Bool.false_xor, Bool.true_xor, gFor]
      refine ⟨pos t0, pos t2, rfl, q0.pos, ?_⟩
      rw [back_due q0 q2]
      refine ⟨_, _, rfl, dueB_ok q0, dueB_ok q0, dueB_len q0, ?_⟩
      rw [decide_eq_true rfl]
      try simp only [ownLst, ownObj, mTake, mOf, fAndV, fOrV, fArgs, fCons, fNil, fVar_0, fVar_s, fUn, fBin, fBool, startE, envOf, slot, gSeq, frzE, gComp, gCompD, wipe_nil, wipe_cons, List.map_cons, List.map_nil, List.cons_append, List.nil_append, List.append_nil, true_and, and_true, List.set_cons_zero, List.set_cons_succ, List.length_cons, List.length_nil, List.replicate_succ, List.replicate_zero, Nat.reduceSub, Nat.reduceAdd, Nat.reduceLT, DEnds.fn, bOf_bl, eq_self, reduceIte, Bool.false_eq_true, gNotV_bl, Bool.not_true, Bool.not_false, g2I_int, g2I0_int, g1I_int, gLen_lst, gLen_tup, gInt_int, gMax2_int, gMin2_int, gIsN_non, gIsN_obj, gIsN_dT, gIsN_dK, gIsN_int, xsOf_lst, tsOf_tup, gIx_t0, gIx_t1, gIx_l0, gIx_l1, gIx_l2, iOf_int, gSlS_str, gCatS_str, gRepS_str, gFind_str, gEqA_int, gEqA_str, gEqA_bl, gTup, gLst, Option.isSome_some, Bool.false_xor, Bool.true_xor, gFor]
      refine ⟨pos t0, pos [], rfl, q0.pos, ?_⟩
      refine ⟨t0, [], rfl, q0.ok, ?_⟩
      rw [back_due q0 qe]
      refine ⟨_, _, rfl, dueB_ok q0, dueB_ok q0, dueB_len q0, ?_⟩
      rw [decide_eq_true rfl]
      try simp only [ownLst, ownObj, mTake, mOf, fAndV, fOrV, fArgs, fCons, fNil, fVar_0, fVar_s, fUn, fBin, fBool, startE, envOf, slot, gSeq, frzE, gComp, gCompD, wipe_nil, wipe_cons, List.map_cons, List.map_nil, List.cons_append, List.nil_append, List.append_nil, true_and, and_true, List.set_cons_zero, List.set_cons_succ, List.length_cons, List.length_nil, List.replicate_succ, List.replicate_zero, Nat.reduceSub, Nat.reduceAdd, Nat.reduceLT, DEnds.fn, bOf_bl, eq_self, reduceIte, Bool.false_eq_true, gNotV_bl, Bool.not_true, Bool.not_false, g2I_int, g2I0_int, g1I_int, gLen_lst, gLen_tup, gInt_int, gMax2_int, gMin2_int, gIsN_non, gIsN_obj, gIsN_dT, gIsN_dK, gIsN_int, xsOf_lst, tsOf_tup, gIx_t0, gIx_t1, gIx_l0, gIx_l1, gIx_l2, iOf_int, gSlS_str, gCatS_str, gRepS_str, gFind_str, gEqA_int, gEqA_str, gEqA_bl, gTup, gLst, Option.isSome_some, Bool.false_xor, Bool.true_xor, gFor]
      refine ⟨by decide, by decide, ?_⟩
      refine compD_map (xs := List.range 3) (fun j : Nat => D.int (0 + (j : Int))) (fun _ => none) (fun j hj N hN => ?_) (by show 3 ≤ sizeLine; decide) ?_
      · have hj : j < 3 := List.mem_range.mp hj
        have ej : (0 : Int) + (j : Int) = (j : Int) := by omega
        refine ⟨_, rfl, ?_⟩
        rw [ej]
        try simp only [ownLst, ownObj, mTake, mOf, fAndV, fOrV, fArgs, fCons, fNil, fVar_0, fVar_s, fUn, fBin, fBool, startE, envOf, slot, gSeq, frzE, gComp, gCompD, wipe_nil, wipe_cons, List.map_cons, List.map_nil, List.cons_append, List.nil_append, List.append_nil, true_and, and_true, List.set_cons_zero, List.set_cons_succ, List.length_cons, List.length_nil, List.replicate_succ, List.replicate_zero, Nat.reduceSub, Nat.reduceAdd, Nat.reduceLT, DEnds.fn, bOf_bl, eq_self, reduceIte, Bool.false_eq_true, gNotV_bl, Bool.not_true, Bool.not_false, g2I_int, g2I0_int, g1I_int, gLen_lst, gLen_tup, gInt_int, gMax2_int, gMin2_int, gIsN_non, gIsN_obj, gIsN_dT, gIsN_dK, gIsN_int, xsOf_lst, tsOf_tup, gIx_t0, gIx_t1, gIx_l0, gIx_l1, gIx_l2, iOf_int, gSlS_str, gCatS_str, gRepS_str, gFind_str, gEqA_int, gEqA_str, gEqA_bl, gTup, gLst, Option.isSome_some, Bool.false_xor, Bool.true_xor, gFor]
        obtain rfl | rfl | rfl : j = 0 ∨ j = 1 ∨ j = 2 := by omega
        · refine gIx_nat (k := 0) (d := planD C_Plan (pos t0)) rfl ?_
          try simp only [ownLst, ownObj, mTake, mOf, fAndV, fOrV, fArgs, fCons, fNil, fVar_0, fVar_s, fUn, fBin, fBool, startE, envOf, slot, gSeq, frzE, gComp, gCompD, wipe_nil, wipe_cons, List.map_cons, List.map_nil, List.cons_append, List.nil_append, List.append_nil, true_and, and_true, List.set_cons_zero, List.set_cons_succ, List.length_cons, List.length_nil, List.replicate_succ, List.replicate_zero, Nat.reduceSub, Nat.reduceAdd, Nat.reduceLT, DEnds.fn, bOf_bl, eq_self, reduceIte, Bool.false_eq_true, gNotV_bl, Bool.not_true, Bool.not_false, g2I_int, g2I0_int, g1I_int, gLen_lst, gLen_tup, gInt_int, gMax2_int, gMin2_int, gIsN_non, gIsN_obj, gIsN_dT, gIsN_dK, gIsN_int, xsOf_lst, tsOf_tup, gIx_t0, gIx_t1, gIx_l0, gIx_l1, gIx_l2, iOf_int, gSlS_str, gCatS_str, gRepS_str, gFind_str, gEqA_int, gEqA_str, gEqA_bl, gTup, gLst, Option.isSome_some, Bool.false_xor, Bool.true_xor, gFor]
          refine gIx_nat (k := 0) (d := tabD t0) rfl ?_
          refine ⟨t0, rfl, q0, ?_⟩
          try simp only [ownLst, ownObj, mTake, mOf, fAndV, fOrV, fArgs, fCons, fNil, fVar_0, fVar_s, fUn, fBin, fBool, startE, envOf, slot, gSeq, frzE, gComp, gCompD, wipe_nil, wipe_cons, List.map_cons, List.map_nil, List.cons_append, List.nil_append, List.append_nil, true_and, and_true, List.set_cons_zero, List.set_cons_succ, List.length_cons, List.length_nil, List.replicate_succ, List.replicate_zero, Nat.reduceSub, Nat.reduceAdd, Nat.reduceLT, DEnds.fn, bOf_bl, eq_self, reduceIte, Bool.false_eq_true, gNotV_bl, Bool.not_true, Bool.not_false, g2I_int, g2I0_int, g1I_int, gLen_lst, gLen_tup, gInt_int, gMax2_int, gMin2_int, gIsN_non, gIsN_obj, gIsN_dT, gIsN_dK, gIsN_int, xsOf_lst, tsOf_tup, gIx_t0, gIx_t1, gIx_l0, gIx_l1, gIx_l2, iOf_int, gSlS_str, gCatS_str, gRepS_str, gFind_str, gEqA_int, gEqA_str, gEqA_bl, gTup, gLst, Option.isSome_some, Bool.false_xor, Bool.true_xor, gFor]
          exact hN
        · refine gIx_nat (k := 1) (d := planD C_Plan (pos t1)) rfl ?_
          try simp only [ownLst, ownObj, mTake, mOf, fAndV, fOrV, fArgs, fCons, fNil, fVar_0, fVar_s, fUn, fBin, fBool, startE, envOf, slot, gSeq, frzE, gComp, gCompD, wipe_nil, wipe_cons, List.map_cons, List.map_nil, List.cons_append, List.nil_append, List.append_nil, true_and, and_true, List.set_cons_zero, List.set_cons_succ, List.length_cons, List.length_nil, List.replicate_succ, List.replicate_zero, Nat.reduceSub, Nat.reduceAdd, Nat.reduceLT, DEnds.fn, bOf_bl, eq_self, reduceIte, Bool.false_eq_true, gNotV_bl, Bool.not_true, Bool.not_false, g2I_int, g2I0_int, g1I_int, gLen_lst, gLen_tup, gInt_int, gMax2_int, gMin2_int, gIsN_non, gIsN_obj, gIsN_dT, gIsN_dK, gIsN_int, xsOf_lst, tsOf_tup, gIx_t0, gIx_t1, gIx_l0, gIx_l1, gIx_l2, iOf_int, gSlS_str, gCatS_str, gRepS_str, gFind_str, gEqA_int, gEqA_str, gEqA_bl, gTup, gLst, Option.isSome_some, Bool.false_xor, Bool.true_xor, gFor]
          refine gIx_nat (k := 1) (d := tabD t1) rfl ?_
          refine ⟨t1, rfl, q1, ?_⟩
          try simp only [ownLst, ownObj, mTake, mOf, fAndV, fOrV, fArgs, fCons, fNil, fVar_0, fVar_s, fUn, fBin, fBool, startE, envOf, slot, gSeq, frzE, gComp, gCompD, wipe_nil, wipe_cons, List.map_cons, List.map_nil, List.cons_append, List.nil_append, List.append_nil, true_and, and_true, List.set_cons_zero, List.set_cons_succ, List.length_cons, List.length_nil, List.replicate_succ, List.replicate_zero, Nat.reduceSub, Nat.reduceAdd, Nat.reduceLT, DEnds.fn, bOf_bl, eq_self, reduceIte, Bool.false_eq_true, gNotV_bl, Bool.not_true, Bool.not_false, g2I_int, g2I0_int, g1I_int, gLen_lst, gLen_tup, gInt_int, gMax2_int, gMin2_int, gIsN_non, gIsN_obj, gIsN_dT, gIsN_dK, gIsN_int, xsOf_lst, tsOf_tup, gIx_t0, gIx_t1, gIx_l0, gIx_l1, gIx_l2, iOf_int, gSlS_str, gCatS_str, gRepS_str, gFind_str, gEqA_int, gEqA_str, gEqA_bl, gTup, gLst, Option.isSome_some, Bool.false_xor, Bool.true_xor, gFor]
          exact hN
        · refine gIx_nat (k := 2) (d := planD C_Plan (pos t2)) rfl ?_
          try simp only [ownLst, ownObj, mTake, mOf, fAndV, fOrV, fArgs, fCons, fNil, fVar_0, fVar_s, fUn, fBin, fBool, startE, envOf, slot, gSeq, frzE, gComp, gCompD, wipe_nil, wipe_cons, List.map_cons, List.map_nil, List.cons_append, List.nil_append, List.append_nil, true_and, and_true, List.set_cons_zero, List.set_cons_succ, List.length_cons, List.length_nil, List.replicate_succ, List.replicate_zero, Nat.reduceSub, Nat.reduceAdd, Nat.reduceLT, DEnds.fn, bOf_bl, eq_self, reduceIte, Bool.false_eq_true, gNotV_bl, Bool.not_true, Bool.not_false, g2I_int, g2I0_int, g1I_int, gLen_lst, gLen_tup, gInt_int, gMax2_int, gMin2_int, gIsN_non, gIsN_obj, gIsN_dT, gIsN_dK, gIsN_int, xsOf_lst, tsOf_tup, gIx_t0, gIx_t1, gIx_l0, gIx_l1, gIx_l2, iOf_int, gSlS_str, gCatS_str, gRepS_str, gFind_str, gEqA_int, gEqA_str, gEqA_bl, gTup, gLst, Option.isSome_some, Bool.false_xor, Bool.true_xor, gFor]
          refine gIx_nat (k := 2) (d := tabD t2) rfl ?_
          refine ⟨t2, rfl, q2, ?_⟩
          try simp only [ownLst, ownObj, mTake, mOf, fAndV, fOrV, fArgs, fCons, fNil, fVar_0, fVar_s, fUn, fBin, fBool, startE, envOf, slot, gSeq, frzE, gComp, gCompD, wipe_nil, wipe_cons, List.map_cons, List.map_nil, List.cons_append, List.nil_append, List.append_nil, true_and, and_true, List.set_cons_zero, List.set_cons_succ, List.length_cons, List.length_nil, List.replicate_succ, List.replicate_zero, Nat.reduceSub, Nat.reduceAdd, Nat.reduceLT, DEnds.fn, bOf_bl, eq_self, reduceIte, Bool.false_eq_true, gNotV_bl, Bool.not_true, Bool.not_false, g2I_int, g2I0_int, g1I_int, gLen_lst, gLen_tup, gInt_int, gMax2_int, gMin2_int, gIsN_non, gIsN_obj, gIsN_dT, gIsN_dK, gIsN_int, xsOf_lst, tsOf_tup, gIx_t0, gIx_t1, gIx_l0, gIx_l1, gIx_l2, iOf_int, gSlS_str, gCatS_str, gRepS_str, gFind_str, gEqA_int, gEqA_str, gEqA_bl, gTup, gLst, Option.isSome_some, Bool.false_xor, Bool.true_xor, gFor]
          exact hN
      · have e : (List.range 3).filterMap (fun _ => (none : Option D)) = [] := rfl
        rw [e]
        try simp only [ownLst, ownObj, mTake, mOf, fAndV, fOrV, fArgs, fCons, fNil, fVar_0, fVar_s, fUn, fBin, fBool, startE, envOf, slot, gSeq, frzE, gComp, gCompD, wipe_nil, wipe_cons, List.map_cons, List.map_nil, List.cons_append, List.nil_append, List.append_nil, true_and, and_true, List.set_cons_zero, List.set_cons_succ, List.length_cons, List.length_nil, List.replicate_succ, List.replicate_zero, Nat.reduceSub, Nat.reduceAdd, Nat.reduceLT, DEnds.fn, bOf_bl, eq_self, reduceIte, Bool.false_eq_true, gNotV_bl, Bool.not_true, Bool.not_false, g2I_int, g2I0_int, g1I_int, gLen_lst, gLen_tup, gInt_int, gMax2_int, gMin2_int, gIsN_non, gIsN_obj, gIsN_dT, gIsN_dK, gIsN_int, xsOf_lst, tsOf_tup, gIx_t0, gIx_t1, gIx_l0, gIx_l1, gIx_l2, iOf_int, gSlS_str, gCatS_str, gRepS_str, gFind_str, gEqA_int, gEqA_str, gEqA_bl, gTup, gLst, Option.isSome_some, Bool.false_xor, Bool.true_xor, gFor]
        have er : rows (pos []) = [] := by simp [rows, sk, pos]
        refine ⟨⟨rfl, rfl⟩, pos [], rfl, qe.pos, ?_⟩
        rw [er]
        refine ⟨by decide, [], [], rfl, fun r h => (by cases h), fun r h => (by cases h), by decide, ?_⟩
        rw [decide_eq_true rfl]
        exact rfl
  · rw [decide_eq_false h9]
    try simp only [ownLst, ownObj, mTake, mOf, fAndV, fOrV, fArgs, fCons, fNil, fVar_0, fVar_s, fUn, fBin, fBool, startE, envOf, slot, gSeq, frzE, gComp, gCompD, wipe_nil, wipe_cons, List.map_cons, List.map_nil, List.cons_append, List.nil_append, List.append_nil, true_and, and_true, List.set_cons_zero, List.set_cons_succ, List.length_cons, List.length_nil, List.replicate_succ, List.replicate_zero, Nat.reduceSub, Nat.reduceAdd, Nat.reduceLT, DEnds.fn, bOf_bl, eq_self, reduceIte, Bool.false_eq_true, gNotV_bl, Bool.not_true, Bool.not_false, g2I_int, g2I0_int, g1I_int, gLen_lst, gLen_tup, gInt_int, gMax2_int, gMin2_int, gIsN_non, gIsN_obj, gIsN_dT, gIsN_dK, gIsN_int, xsOf_lst, tsOf_tup, gIx_t0, gIx_t1, gIx_l0, gIx_l1, gIx_l2, iOf_int, gSlS_str, gCatS_str, gRepS_str, gFind_str, gEqA_int, gEqA_str, gEqA_bl, gTup, gLst, Option.isSome_some, Bool.false_xor, Bool.true_xor, gFor]
    have hp0 : 0 ≤ pr0 := p0
    have hp1 : pr0 < 2 ^ 62 := by omega
    generalize pr0 = pr at hp0 hp1
    by_cases hk : kd = 2
    · rw [decide_eq_true hk]
      try simp only [ownLst, ownObj, mTake, mOf, fAndV, fOrV, fArgs, fCons, fNil, fVar_0, fVar_s, fUn, fBin, fBool, startE, envOf, slot, gSeq, frzE, gComp, gCompD, wipe_nil, wipe_cons, List.map_cons, List.map_nil, List.cons_append, List.nil_append, List.append_nil, true_and, and_true, List.set_cons_zero, List.set_cons_succ, List.length_cons, List.length_nil, List.replicate_succ, List.replicate_zero, Nat.reduceSub, Nat.reduceAdd, Nat.reduceLT, DEnds.fn, bOf_bl, eq_self, reduceIte, Bool.false_eq_true, gNotV_bl, Bool.not_true, Bool.not_false, g2I_int, g2I0_int, g1I_int, gLen_lst, gLen_tup, gInt_int, gMax2_int, gMin2_int, gIsN_non, gIsN_obj, gIsN_dT, gIsN_dK, gIsN_int, xsOf_lst, tsOf_tup, gIx_t0, gIx_t1, gIx_l0, gIx_l1, gIx_l2, iOf_int, gSlS_str, gCatS_str, gRepS_str, gFind_str, gEqA_int, gEqA_str, gEqA_bl, gTup, gLst, Option.isSome_some, Bool.false_xor, Bool.true_xor, gFor]
      by_cases hpr : pr = 0
      · rw [decide_eq_true hpr]
        try simp only [ownLst, ownObj, mTake, mOf, fAndV, fOrV, fArgs, fCons, fNil, fVar_0, fVar_s, fUn, fBin, fBool, startE, envOf, slot, gSeq, frzE, gComp, gCompD, wipe_nil, wipe_cons, List.map_cons, List.map_nil, List.cons_append, List.nil_append, List.append_nil, true_and, and_true, List.set_cons_zero, List.set_cons_succ, List.length_cons, List.length_nil, List.replicate_succ, List.replicate_zero, Nat.reduceSub, Nat.reduceAdd, Nat.reduceLT, DEnds.fn, bOf_bl, eq_self, reduceIte, Bool.false_eq_true, gNotV_bl, Bool.not_true, Bool.not_false, g2I_int, g2I0_int, g1I_int, gLen_lst, gLen_tup, gInt_int, gMax2_int, gMin2_int, gIsN_non, gIsN_obj, gIsN_dT, gIsN_dK, gIsN_int, xsOf_lst, tsOf_tup, gIx_t0, gIx_t1, gIx_l0, gIx_l1, gIx_l2, iOf_int, gSlS_str, gCatS_str, gRepS_str, gFind_str, gEqA_int, gEqA_str, gEqA_bl, gTup, gLst, Option.isSome_some, Bool.false_xor, Bool.true_xor, gFor]
        refine ⟨[], rfl, .inl ⟨rfl, rfl⟩, qe.ok, rfl, ?_⟩
        refine ⟨pos t0, pos t2, (some (pos t1)), kd, pr, rfl, q0.pos, hp0, hp1, ?_⟩
        refine ⟨t0, t1, 5, t2, rfl, q0.ok, by decide, by decide, ?_⟩
        refine ⟨_, _, rfl, ?_⟩
        rw [decide_eq_true (by rw [if_neg (by omega), if_pos hpr]; exact cost_due q0 q2 (.inr ⟨q1, rfl⟩))]
        try simp only [ownLst, ownObj, mTake, mOf, fAndV, fOrV, fArgs, fCons, fNil, fVar_0, fVar_s, fUn, fBin, fBool, startE, envOf, slot, gSeq, frzE, gComp, gCompD, wipe_nil, wipe_cons, List.map_cons, List.map_nil, List.cons_append, List.nil_append, List.append_nil, true_and, and_true, List.set_cons_zero, List.set_cons_succ, List.length_cons, List.length_nil, List.replicate_succ, List.replicate_zero, Nat.reduceSub, Nat.reduceAdd, Nat.reduceLT, DEnds.fn, bOf_bl, eq_self, reduceIte, Bool.false_eq_true, gNotV_bl, Bool.not_true, Bool.not_false, g2I_int, g2I0_int, g1I_int, gLen_lst, gLen_tup, gInt_int, gMax2_int, gMin2_int, gIsN_non, gIsN_obj, gIsN_dT, gIsN_dK, gIsN_int, xsOf_lst, tsOf_tup, gIx_t0, gIx_t1, gIx_l0, gIx_l1, gIx_l2, iOf_int, gSlS_str, gCatS_str, gRepS_str, gFind_str, gEqA_int, gEqA_str, gEqA_bl, gTup, gLst, Option.isSome_some, Bool.false_xor, Bool.true_xor, gFor]
        refine ⟨pos t0, pos [], (some (pos t1)), kd, pr, rfl, q0.pos, hp0, hp1, ?_⟩
        refine ⟨t0, t1, 5, [], rfl, q0.ok, by decide, by decide, ?_⟩
        refine ⟨_, _, rfl, ?_⟩
        rw [decide_eq_true (by rw [if_neg (by omega), if_pos hpr]; exact cost_due q0 qe (.inr ⟨q1, rfl⟩))]
        try simp only [ownLst, ownObj, mTake, mOf, fAndV, fOrV, fArgs, fCons, fNil, fVar_0, fVar_s, fUn, fBin, fBool, startE, envOf, slot, gSeq, frzE, gComp, gCompD, wipe_nil, wipe_cons, List.map_cons, List.map_nil, List.cons_append, List.nil_append, List.append_nil, true_and, and_true, List.set_cons_zero, List.set_cons_succ, List.length_cons, List.length_nil, List.replicate_succ, List.replicate_zero, Nat.reduceSub, Nat.reduceAdd, Nat.reduceLT, DEnds.fn, bOf_bl, eq_self, reduceIte, Bool.false_eq_true, gNotV_bl, Bool.not_true, Bool.not_false, g2I_int, g2I0_int, g1I_int, gLen_lst, gLen_tup, gInt_int, gMax2_int, gMin2_int, gIsN_non, gIsN_obj, gIsN_dT, gIsN_dK, gIsN_int, xsOf_lst, tsOf_tup, gIx_t0, gIx_t1, gIx_l0, gIx_l1, gIx_l2, iOf_int, gSlS_str, gCatS_str, gRepS_str, gFind_str, gEqA_int, gEqA_str, gEqA_bl, gTup, gLst, Option.isSome_some, Bool.false_xor, Bool.true_xor, gFor]
        refine ⟨pos [], pos t2, none, 1 + pr, rfl, qe.pos, by omega, by omega, ?_⟩
        refine ⟨_, _, rfl, ?_⟩
        rw [decide_eq_true (show costP (pos []) (pos t2) none (1 + pr) = 0 from (cost_due qe q2 (.inl ⟨rfl, rfl⟩)).trans rfl)]
        try simp only [ownLst, ownObj, mTake, mOf, fAndV, fOrV, fArgs, fCons, fNil, fVar_0, fVar_s, fUn, fBin, fBool, startE, envOf, slot, gSeq, frzE, gComp, gCompD, wipe_nil, wipe_cons, List.map_cons, List.map_nil, List.cons_append, List.nil_append, List.append_nil, true_and, and_true, List.set_cons_zero, List.set_cons_succ, List.length_cons, List.length_nil, List.replicate_succ, List.replicate_zero, Nat.reduceSub, Nat.reduceAdd, Nat.reduceLT, DEnds.fn, bOf_bl, eq_self, reduceIte, Bool.false_eq_true, gNotV_bl, Bool.not_true, Bool.not_false, g2I_int, g2I0_int, g1I_int, gLen_lst, gLen_tup, gInt_int, gMax2_int, gMin2_int, gIsN_non, gIsN_obj, gIsN_dT, gIsN_dK, gIsN_int, xsOf_lst, tsOf_tup, gIx_t0, gIx_t1, gIx_l0, gIx_l1, gIx_l2, iOf_int, gSlS_str, gCatS_str, gRepS_str, gFind_str, gEqA_int, gEqA_str, gEqA_bl, gTup, gLst, Option.isSome_some, Bool.false_xor, Bool.true_xor, gFor]
        refine ⟨pos t2, pos t0, none, 5, rfl, q2.pos, by decide, by decide, ?_⟩
        refine ⟨t2, [], 5, t0, rfl, q2.ok, by decide, by decide, ?_⟩
        refine ⟨_, _, rfl, ?_⟩
        rw [decide_eq_true (cost_due q2 q0 (.inl ⟨rfl, rfl⟩))]
        try simp only [ownLst, ownObj, mTake, mOf, fAndV, fOrV, fArgs, fCons, fNil, fVar_0, fVar_s, fUn, fBin, fBool, startE, envOf, slot, gSeq, frzE, gComp, gCompD, wipe_nil, wipe_cons, List.map_cons, List.map_nil, List.cons_append, List.nil_append, List.append_nil, true_and, and_true, List.set_cons_zero, List.set_cons_succ, List.length_cons, List.length_nil, List.replicate_succ, List.replicate_zero, Nat.reduceSub, Nat.reduceAdd, Nat.reduceLT, DEnds.fn, bOf_bl, eq_self, reduceIte, Bool.false_eq_true, gNotV_bl, Bool.not_true, Bool.not_false, g2I_int, g2I0_int, g1I_int, gLen_lst, gLen_tup, gInt_int, gMax2_int, gMin2_int, gIsN_non, gIsN_obj, gIsN_dT, gIsN_dK, gIsN_int, xsOf_lst, tsOf_tup, gIx_t0, gIx_t1, gIx_l0, gIx_l1, gIx_l2, iOf_int, gSlS_str, gCatS_str, gRepS_str, gFind_str, gEqA_int, gEqA_str, gEqA_bl, gTup, gLst, Option.isSome_some, Bool.false_xor, Bool.true_xor, gFor]
        refine ⟨t0, t2, rfl, q0.ok, ?_⟩
        refine ⟨pos t0, pos t2, rfl, q0.pos, ?_⟩
        try simp only [ownLst, ownObj, mTake, mOf, fAndV, fOrV, fArgs, fCons, fNil, fVar_0, fVar_s, fUn, fBin, fBool, startE, envOf, slot, gSeq, frzE, gComp, gCompD, wipe_nil, wipe_cons, List.map_cons, List.map_nil, List.cons_append, List.nil_append, List.append_nil, true_and, and_true, List.set_cons_zero, List.set_cons_succ, List.length_cons, List.length_nil, List.replicate_succ, List.replicate_zero, Nat.reduceSub, Nat.reduceAdd, Nat.reduceLT, DEnds.fn, bOf_bl, eq_self, reduceIte, Bool.false_eq_true, gNotV_bl, Bool.not_true, Bool.not_false, g2I_int, g2I0_int, g1I_int, gLen_lst, gLen_tup, gInt_int, gMax2_int, gMin2_int, gIsN_non, gIsN_obj, gIsN_dT, gIsN_dK, gIsN_int, xsOf_lst, tsOf_tup, gIx_t0, gIx_t1, gIx_l0, gIx_l1, gIx_l2, iOf_int, gSlS_str, gCatS_str, gRepS_str, gFind_str, gEqA_int, gEqA_str, gEqA_bl, gTup, gLst, Option.isSome_some, Bool.false_xor, Bool.true_xor, gFor]
        rw [back_due q0 q2]
        refine ⟨_, _, rfl, dueB_ok q0, dueB_ok q0, dueB_len q0, rfl, ?_⟩
        rw [decide_eq_true rfl]
        try simp only [ownLst, ownObj, mTake, mOf, fAndV, fOrV, fArgs, fCons, fNil, fVar_0, fVar_s, fUn, fBin, fBool, startE, envOf, slot, gSeq, frzE, gComp, gCompD, wipe_nil, wipe_cons, List.map_cons, List.map_nil, List.cons_append, List.nil_append, List.append_nil, true_and, and_true, List.set_cons_zero, List.set_cons_succ, List.length_cons, List.length_nil, List.replicate_succ, List.replicate_zero, Nat.reduceSub, Nat.reduceAdd, Nat.reduceLT, DEnds.fn, bOf_bl, eq_self, reduceIte, Bool.false_eq_true, gNotV_bl, Bool.not_true, Bool.not_false, g2I_int, g2I0_int, g1I_int, gLen_lst, gLen_tup, gInt_int, gMax2_int, gMin2_int, gIsN_non, gIsN_obj, gIsN_dT, gIsN_dK, gIsN_int, xsOf_lst, tsOf_tup, gIx_t0, gIx_t1, gIx_l0, gIx_l1, gIx_l2, iOf_int, gSlS_str, gCatS_str, gRepS_str, gFind_str, gEqA_int, gEqA_str, gEqA_bl, gTup, gLst, Option.isSome_some, Bool.false_xor, Bool.true_xor, gFor]
        refine ⟨by decide, by decide, by rw [List.length_map, sz]; have := dueB_len (n := t2) q0; omega, gIx_last ⟨0, ix_first, ?_⟩⟩
        refine ⟨pos t2, pos t0, rfl, q2.pos, ?_⟩
        refine ⟨t2, t0, rfl, q2.ok, ?_⟩
        rw [back_due q2 q0]
        refine ⟨_, _, rfl, dueB_ok q2, dueB_ok q2, dueB_len q2, ?_⟩
        rw [decide_eq_true rfl]
        try simp only [ownLst, ownObj, mTake, mOf, fAndV, fOrV, fArgs, fCons, fNil, fVar_0, fVar_s, fUn, fBin, fBool, startE, envOf, slot, gSeq, frzE, gComp, gCompD, wipe_nil, wipe_cons, List.map_cons, List.map_nil, List.cons_append, List.nil_append, List.append_nil, true_and, and_true, List.set_cons_zero, List.set_cons_succ, List.length_cons, List.length_nil, List.replicate_succ, List.replicate_zero, Nat.reduceSub, Nat.reduceAdd, Nat.reduceLT, DEnds.fn, bOf_bl, eq_self, reduceIte, Bool.false_eq_true, gNotV_bl, Bool.not_true, Bool.not_false, g2I_int, g2I0_int, g1I_int, gLen_lst, gLen_tup, gInt_int, gMax2_int, gMin2_int, gIsN_non, gIsN_obj, gIsN_dT, gIsN_dK, gIsN_int, xsOf_lst, tsOf_tup, gIx_t0, gIx_t1, gIx_l0, gIx_l1, gIx_l2, iOf_int, gSlS_str, gCatS_str, gRepS_str, gFind_str, gEqA_int, gEqA_str, gEqA_bl, gTup, gLst, Option.isSome_some, Bool.false_xor, Bool.true_xor, gFor]
        refine ⟨pos [], pos t0, rfl, qe.pos, ?_⟩
        rw [back_due qe q0, dueB_nil]
        refine ⟨by decide, [], [], rfl, fun r h => (by cases h), fun r h => (by cases h), by decide, ?_⟩
        rw [decide_eq_true rfl]
        try simp only [ownLst, ownObj, mTake, mOf, fAndV, fOrV, fArgs, fCons, fNil, fVar_0, fVar_s, fUn, fBin, fBool, startE, envOf, slot, gSeq, frzE, gComp, gCompD, wipe_nil, wipe_cons, List.map_cons, List.map_nil, List.cons_append, List.nil_append, List.append_nil, true_and, and_true, List.set_cons_zero, List.set_cons_succ, List.length_cons, List.length_nil, List.replicate_succ, List.replicate_zero, Nat.reduceSub, Nat.reduceAdd, Nat.reduceLT, DEnds.fn, bOf_bl, eq_self, reduceIte, Bool.false_eq_true, gNotV_bl, Bool.not_true, Bool.not_false, g2I_int, g2I0_int, g1I_int, gLen_lst, gLen_tup, gInt_int, gMax2_int, gMin2_int, gIsN_non, gIsN_obj, gIsN_dT, gIsN_dK, gIsN_int, xsOf_lst, tsOf_tup, gIx_t0, gIx_t1, gIx_l0, gIx_l1, gIx_l2, iOf_int, gSlS_str, gCatS_str, gRepS_str, gFind_str, gEqA_int, gEqA_str, gEqA_bl, gTup, gLst, Option.isSome_some, Bool.false_xor, Bool.true_xor, gFor]
        refine ⟨pos t0, pos t2, rfl, q0.pos, ?_⟩
        rw [back_due q0 q2]
        refine ⟨_, _, rfl, dueB_ok q0, dueB_ok q0, dueB_len q0, ?_⟩
        rw [decide_eq_true rfl]
        try simp only [ownLst, ownObj, mTake, mOf, fAndV, fOrV, fArgs, fCons, fNil, fVar_0, fVar_s, fUn, fBin, fBool, startE, envOf, slot, gSeq, frzE, gComp, gCompD, wipe_nil, wipe_cons, List.map_cons, List.map_nil, List.cons_append, List.nil_append, List.append_nil, true_and, and_true, List.set_cons_zero, List.set_cons_succ, List.length_cons, List.length_nil, List.replicate_succ, List.replicate_zero, Nat.reduceSub, Nat.reduceAdd, Nat.reduceLT, DEnds.fn, bOf_bl, eq_self, reduceIte, Bool.false_eq_true, gNotV_bl, Bool.not_true, Bool.not_false, g2I_int, g2I0_int, g1I_int, gLen_lst, gLen_tup, gInt_int, gMax2_int, gMin2_int, gIsN_non, gIsN_obj, gIsN_dT, gIsN_dK, gIsN_int, xsOf_lst, tsOf_tup, gIx_t0, gIx_t1, gIx_l0, gIx_l1, gIx_l2, iOf_int, gSlS_str, gCatS_str, gRepS_str, gFind_str, gEqA_int, gEqA_str, gEqA_bl, gTup, gLst, Option.isSome_some, Bool.false_xor, Bool.true_xor, gFor]
        refine ⟨pos t0, pos [], rfl, q0.pos, ?_⟩
        refine ⟨t0, [], rfl, q0.ok, ?_⟩
        rw [back_due q0 qe]
        refine ⟨_, _, rfl, dueB_ok q0, dueB_ok q0, dueB_len q0, ?_⟩
        rw [decide_eq_true rfl]
        try simp only [ownLst, ownObj, mTake, mOf, fAndV, fOrV, fArgs, fCons, fNil, fVar_0, fVar_s, fUn, fBin, fBool, startE, envOf, slot, gSeq, frzE, gComp, gCompD, wipe_nil, wipe_cons, List.map_cons, List.map_nil, List.cons_append, List.nil_append, List.append_nil, true_and, and_true, List.set_cons_zero, List.set_cons_succ, List.length_cons, List.length_nil, List.replicate_succ, List.replicate_zero, Nat.reduceSub, Nat.reduceAdd, Nat.reduceLT, DEnds.fn, bOf_bl, eq_self, reduceIte, Bool.false_eq_true, gNotV_bl, Bool.not_true, Bool.not_false, g2I_int, g2I0_int, g1I_int, gLen_lst, gLen_tup, gInt_int, gMax2_int, gMin2_int, gIsN_non, gIsN_obj, gIsN_dT, gIsN_dK, gIsN_int, xsOf_lst, tsOf_tup, gIx_t0, gIx_t1, gIx_l0, gIx_l1, gIx_l2, iOf_int, gSlS_str, gCatS_str, gRepS_str, gFind_str, gEqA_int, gEqA_str, gEqA_bl, gTup, gLst, Option.isSome_some, Bool.false_xor, Bool.true_xor, gFor]
        refine ⟨by decide, by decide, ?_⟩
        refine compD_map (xs := List.range 3) (fun j : Nat => D.int (0 + (j : Int))) (fun _ => none) (fun j hj N hN => ?_) (by show 3 ≤ sizeLine; decide) ?_
        · have hj : j < 3 := List.mem_range.mp hj
          have ej : (0 : Int) + (j : Int) = (j : Int) := by omega
          refine ⟨_, rfl, ?_⟩
          rw [ej]
          try simp only [ownLst, ownObj, mTake, mOf, fAndV, fOrV, fArgs, fCons, fNil, fVar_0, fVar_s, fUn, fBin, fBool, startE, envOf, slot, gSeq, frzE, gComp, gCompD, wipe_nil, wipe_cons, List.map_cons, List.map_nil, List.cons_append, List.nil_append, List.append_nil, true_and, and_true, List.set_cons_zero, List.set_cons_succ, List.length_cons, List.length_nil, List.replicate_succ, List.replicate_zero, Nat.reduceSub, Nat.reduceAdd, Nat.reduceLT, DEnds.fn, bOf_bl, eq_self, reduceIte, Bool.false_eq_true, gNotV_bl, Bool.not_true, Bool.not_false, g2I_int, g2I0_int, g1I_int, gLen_lst, gLen_tup, gInt_int, gMax2_int, gMin2_int, gIsN_non, gIsN_obj, gIsN_dT, gIsN_dK, gIsN_int, xsOf_lst, tsOf_tup, gIx_t0, gIx_t1, gIx_l0, gIx_l1, gIx_l2, iOf_int, gSlS_str, gCatS_str, gRepS_str, gFind_str, gEqA_int, gEqA_str, gEqA_bl, gTup, gLst, Option.isSome_some, Bool.false_xor, Bool.true_xor, gFor]
          obtain rfl | rfl | rfl : j = 0 ∨ j = 1 ∨ j = 2 := by omega
          · refine gIx_nat (k := 0) (d := planD C_Plan (pos t0)) rfl ?_
            try simp only [ownLst, ownObj, mTake, mOf, fAndV, fOrV, fArgs, fCons, fNil, fVar_0, fVar_s, fUn, fBin, fBool, startE, envOf, slot, gSeq, frzE, gComp, gCompD, wipe_nil, wipe_cons, List.map_cons, List.map_nil, List.cons_append, List.nil_append, List.append_nil, true_and, and_true, List.set_cons_zero, List.set_cons_succ, List.length_cons, List.length_nil, List.replicate_succ, List.replicate_zero, Nat.reduceSub, Nat.reduceAdd, Nat.reduceLT, DEnds.fn, bOf_bl, eq_self, reduceIte, Bool.false_eq_true, gNotV_bl, Bool.not_true, Bool.not_false, g2I_int, g2I0_int, g1I_int, gLen_lst, gLen_tup, gInt_int, gMax2_int, gMin2_int, gIsN_non, gIsN_obj, gIsN_dT, gIsN_dK, gIsN_int, xsOf_lst, tsOf_tup, gIx_t0, gIx_t1, gIx_l0, gIx_l1, gIx_l2, iOf_int, gSlS_str, gCatS_str, gRepS_str, gFind_str, gEqA_int, gEqA_str, gEqA_bl, gTup, gLst, Option.isSome_some, Bool.false_xor, Bool.true_xor, gFor]
            refine gIx_nat (k := 0) (d := tabD t0) rfl ?_
            refine ⟨t0, rfl, q0, ?_⟩
            try simp only [ownLst, ownObj, mTake, mOf, fAndV, fOrV, fArgs, fCons, fNil, fVar_0, fVar_s, fUn, fBin, fBool, startE, envOf, slot, gSeq, frzE, gComp, gCompD, wipe_nil, wipe_cons, List.map_cons, List.map_nil, List.cons_append, List.nil_append, List.append_nil, true_and, and_true, List.set_cons_zero, List.set_cons_succ, List.length_cons, List.length_nil, List.replicate_succ, List.replicate_zero, Nat.reduceSub, Nat.reduceAdd, Nat.reduceLT, DEnds.fn, bOf_bl, eq_self, reduceIte, Bool.false_eq_true, gNotV_bl, Bool.not_true, Bool.not_false, g2I_int, g2I0_int, g1I_int, gLen_lst, gLen_tup, gInt_int, gMax2_int, gMin2_int, gIsN_non, gIsN_obj, gIsN_dT, gIsN_dK, gIsN_int, xsOf_lst, tsOf_tup, gIx_t0, gIx_t1, gIx_l0, gIx_l1, gIx_l2, iOf_int, gSlS_str, gCatS_str, gRepS_str, gFind_str, gEqA_int, gEqA_str, gEqA_bl, gTup, gLst, Option.isSome_some, Bool.false_xor, Bool.true_xor, gFor]
            exact hN
          · refine gIx_nat (k := 1) (d := planD C_Plan (pos t1)) rfl ?_
            try simp only [ownLst, ownObj, mTake, mOf, fAndV, fOrV, fArgs, fCons, fNil, fVar_0, fVar_s, fUn, fBin, fBool, startE, envOf, slot, gSeq, frzE, gComp, gCompD, wipe_nil, wipe_cons, List.map_cons, List.map_nil, List.cons_append, List.nil_append, List.append_nil, true_and, and_true, List.set_cons_zero, List.set_cons_succ, List.length_cons, List.length_nil, List.replicate_succ, List.replicate_zero, Nat.reduceSub, Nat.reduceAdd, Nat.reduceLT, DEnds.fn, bOf_bl, eq_self, reduceIte, Bool.false_eq_true, gNotV_bl, Bool.not_true, Bool.not_false, g2I_int, g2I0_int, g1I_int, gLen_lst, gLen_tup, gInt_int, gMax2_int, gMin2_int, gIsN_non, gIsN_obj, gIsN_dT, gIsN_dK, gIsN_int, xsOf_lst, tsOf_tup, gIx_t0, gIx_t1, gIx_l0, gIx_l1, gIx_l2, iOf_int, gSlS_str, gCatS_str, gRepS_str, gFind_str, gEqA_int, gEqA_str, gEqA_bl, gTup, gLst, Option.isSome_some, Bool.false_xor, Bool.true_xor, gFor]
            refine gIx_nat (k := 1) (d := tabD t1) rfl ?_
            refine ⟨t1, rfl, q1, ?_⟩
            try simp only [ownLst, ownObj, mTake, mOf, fAndV, fOrV, fArgs, fCons, fNil, fVar_0, fVar_s, fUn, fBin, fBool, startE, envOf, slot, gSeq, frzE, gComp, gCompD, wipe_nil, wipe_cons, List.map_cons, List.map_nil, List.cons_append, List.nil_append, List.append_nil, true_and, and_true, List.set_cons_zero, List.set_cons_succ, List.length_cons, List.length_nil, List.replicate_succ, List.replicate_zero, Nat.reduceSub, Nat.reduceAdd, Nat.reduceLT, DEnds.fn, bOf_bl, eq_self, reduceIte, Bool.false_eq_true, gNotV_bl, Bool.not_true, Bool.not_false, g2I_int, g2I0_int, g1I_int, gLen_lst, gLen_tup, gInt_int, gMax2_int, gMin2_int, gIsN_non, gIsN_obj, gIsN_dT, gIsN_dK, gIsN_int, xsOf_lst, tsOf_tup, gIx_t0, gIx_t1, gIx_l0, gIx_l1, gIx_l2, iOf_int, gSlS_str, gCatS_str, gRepS_str, gFind_str, gEqA_int, gEqA_str, gEqA_bl, gTup, gLst, Option.isSome_some, Bool.false_xor, Bool.true_xor, gFor]
            exact hN
          · refine gIx_nat (k := 2) (d := planD C_Plan (pos t2)) rfl ?_
            try simp only [ownLst, ownObj, mTake, mOf, fAndV, fOrV, fArgs, fCons, fNil, fVar_0, fVar_s, fUn, fBin, fBool, startE, envOf, slot, gSeq, frzE, gComp, gCompD, wipe_nil, wipe_cons, List.map_cons, List.map_nil, List.cons_append, List.nil_append, List.append_nil, true_and, and_true, List.set_cons_zero, List.set_cons_succ, List.length_cons, List.length_nil, List.replicate_succ, List.replicate_zero, Nat.reduceSub, Nat.reduceAdd, Nat.reduceLT, DEnds.fn, bOf_bl, eq_self, reduceIte, Bool.false_eq_true, gNotV_bl, Bool.not_true, Bool.not_false, g2I_int, g2I0_int, g1I_int, gLen_lst, gLen_tup, gInt_int, gMax2_int, gMin2_int, gIsN_non, gIsN_obj, gIsN_dT, gIsN_dK, gIsN_int, xsOf_lst, tsOf_tup, gIx_t0, gIx_t1, gIx_l0, gIx_l1, gIx_l2, iOf_int, gSlS_str, gCatS_str, gRepS_str, gFind_str, gEqA_int, gEqA_str, gEqA_bl, gTup, gLst, Option.isSome_some, Bool.false_xor, Bool.true_xor, gFor]
            refine gIx_nat (k := 2) (d := tabD t2) rfl ?_
            refine ⟨t2, rfl, q2, ?_⟩
            try simp only [ownLst, ownObj, mTake, mOf, fAndV, fOrV, fArgs, fCons, fNil, fVar_0, fVar_s, fUn, fBin, fBool, startE, envOf, slot, gSeq, frzE, gComp, gCompD, wipe_nil, wipe_cons, List.map_cons, List.map_nil, List.cons_append, List.nil_append, List.append_nil, true_and, and_true, List.set_cons_zero, List.set_cons_succ, List.length_cons, List.length_nil, List.replicate_succ, List.replicate_zero, Nat.reduceSub, Nat.reduceAdd, Nat.reduceLT, DEnds.fn, bOf_bl, eq_self, reduceIte, Bool.false_eq_true, gNotV_bl, Bool.not_true, Bool.not_false, g2I_int, g2I0_int, g1I_int, gLen_lst, gLen_tup, gInt_int, gMax2_int, gMin2_int, gIsN_non, gIsN_obj, gIsN_dT, gIsN_dK, gIsN_int, xsOf_lst, tsOf_tup, gIx_t0, gIx_t1, gIx_l0, gIx_l1, gIx_l2, iOf_int, gSlS_str, gCatS_str, gRepS_str, gFind_str, gEqA_int, gEqA_str, gEqA_bl, gTup, gLst, Option.isSome_some, Bool.false_xor, Bool.true_xor, gFor]
            exact hN
        · have e : (List.range 3).filterMap (fun _ => (none : Option D)) = [] := rfl
          rw [e]
          try simp only [ownLst, ownObj, mTake, mOf, fAndV, fOrV, fArgs, fCons, fNil, fVar_0, fVar_s, fUn, fBin, fBool, startE, envOf, slot, gSeq, frzE, gComp, gCompD, wipe_nil, wipe_cons, List.map_cons, List.map_nil, List.cons_append, List.nil_append, List.append_nil, true_and, and_true, List.set_cons_zero, List.set_cons_succ, List.length_cons, List.length_nil, List.replicate_succ, List.replicate_zero, Nat.reduceSub, Nat.reduceAdd, Nat.reduceLT, DEnds.fn, bOf_bl, eq_self, reduceIte, Bool.false_eq_true, gNotV_bl, Bool.not_true, Bool.not_false, g2I_int, g2I0_int, g1I_int, gLen_lst, gLen_tup, gInt_int, gMax2_int, gMin2_int, gIsN_non, gIsN_obj, gIsN_dT, gIsN_dK, gIsN_int, xsOf_lst, tsOf_tup, gIx_t0, gIx_t1, gIx_l0, gIx_l1, gIx_l2, iOf_int, gSlS_str, gCatS_str, gRepS_str, gFind_str, gEqA_int, gEqA_str, gEqA_bl, gTup, gLst, Option.isSome_some, Bool.false_xor, Bool.true_xor, gFor]
          have er : rows (pos []) = [] := by simp [rows, sk, pos]
          refine ⟨⟨rfl, rfl⟩, pos [], rfl, qe.pos, ?_⟩
          rw [er]
          refine ⟨by decide, [], [], rfl, fun r h => (by cases h), fun r h => (by cases h), by decide, ?_⟩
          rw [decide_eq_true rfl]
          exact rfl
      · rw [decide_eq_false hpr]
        try simp only [ownLst, ownObj, mTake, mOf, fAndV, fOrV, fArgs, fCons, fNil, fVar_0, fVar_s, fUn, fBin, fBool, startE, envOf, slot, gSeq, frzE, gComp, gCompD, wipe_nil, wipe_cons, List.map_cons, List.map_nil, List.cons_append, List.nil_append, List.append_nil, true_and, and_true, List.set_cons_zero, List.set_cons_succ, List.length_cons, List.length_nil, List.replicate_succ, List.replicate_zero, Nat.reduceSub, Nat.reduceAdd, Nat.reduceLT, DEnds.fn, bOf_bl, eq_self, reduceIte, Bool.false_eq_true, gNotV_bl, Bool.not_true, Bool.not_false, g2I_int, g2I0_int, g1I_int, gLen_lst, gLen_tup, gInt_int, gMax2_int, gMin2_int, gIsN_non, gIsN_obj, gIsN_dT, gIsN_dK, gIsN_int, xsOf_lst, tsOf_tup, gIx_t0, gIx_t1, gIx_l0, gIx_l1, gIx_l2, iOf_int, gSlS_str, gCatS_str, gRepS_str, gFind_str, gEqA_int, gEqA_str, gEqA_bl, gTup, gLst, Option.isSome_some, Bool.false_xor, Bool.true_xor, gFor]
        refine ⟨[], rfl, .inl ⟨rfl, rfl⟩, qe.ok, rfl, ?_⟩
        refine ⟨pos t0, pos t2, (some (pos t1)), kd, pr, rfl, q0.pos, hp0, hp1, ?_⟩
        refine ⟨t0, t1, pr, t2, rfl, q0.ok, by omega, by omega, ?_⟩
        refine ⟨_, _, rfl, ?_⟩
        rw [decide_eq_true (by rw [if_neg (by omega), if_neg hpr]; exact cost_due q0 q2 (.inr ⟨q1, rfl⟩))]
        try simp only [ownLst, ownObj, mTake, mOf, fAndV, fOrV, fArgs, fCons, fNil, fVar_0, fVar_s, fUn, fBin, fBool, startE, envOf, slot, gSeq, frzE, gComp, gCompD, wipe_nil, wipe_cons, List.map_cons, List.map_nil, List.cons_append, List.nil_append, List.append_nil, true_and, and_true, List.set_cons_zero, List.set_cons_succ, List.length_cons, List.length_nil, List.replicate_succ, List.replicate_zero, Nat.reduceSub, Nat.reduceAdd, Nat.reduceLT, DEnds.fn, bOf_bl, eq_self, reduceIte, Bool.false_eq_true, gNotV_bl, Bool.not_true, Bool.not_false, g2I_int, g2I0_int, g1I_int, gLen_lst, gLen_tup, gInt_int, gMax2_int, gMin2_int, gIsN_non, gIsN_obj, gIsN_dT, gIsN_dK, gIsN_int, xsOf_lst, tsOf_tup, gIx_t0, gIx_t1, gIx_l0, gIx_l1, gIx_l2, iOf_int, gSlS_str, gCatS_str, gRepS_str, gFind_str, gEqA_int, gEqA_str, gEqA_bl, gTup, gLst, Option.isSome_some, Bool.false_xor, Bool.true_xor, gFor]
        refine ⟨pos t0, pos [], (some (pos t1)), kd, pr, rfl, q0.pos, hp0, hp1, ?_⟩
        refine ⟨t0, t1, pr, [], rfl, q0.ok, by omega, by omega, ?_⟩
        refine ⟨_, _, rfl, ?_⟩
        rw [decide_eq_true (by rw [if_neg (by omega), if_neg hpr]; exact cost_due q0 qe (.inr ⟨q1, rfl⟩))]
        try simp only [ownLst, ownObj, mTake, mOf, fAndV, fOrV, fArgs, fCons, fNil, fVar_0, fVar_s, fUn, fBin, fBool, startE, envOf, slot, gSeq, frzE, gComp, gCompD, wipe_nil, wipe_cons, List.map_cons, List.map_nil, List.cons_append, List.nil_append, List.append_nil, true_and, and_true, List.set_cons_zero, List.set_cons_succ, List.length_cons, List.length_nil, List.replicate_succ, List.replicate_zero, Nat.reduceSub, Nat.reduceAdd, Nat.reduceLT, DEnds.fn, bOf_bl, eq_self, reduceIte, Bool.false_eq_true, gNotV_bl, Bool.not_true, Bool.not_false, g2I_int, g2I0_int, g1I_int, gLen_lst, gLen_tup, gInt_int, gMax2_int, gMin2_int, gIsN_non, gIsN_obj, gIsN_dT, gIsN_dK, gIsN_int, xsOf_lst, tsOf_tup, gIx_t0, gIx_t1, gIx_l0, gIx_l1, gIx_l2, iOf_int, gSlS_str, gCatS_str, gRepS_str, gFind_str, gEqA_int, gEqA_str, gEqA_bl, gTup, gLst, Option.isSome_some, Bool.false_xor, Bool.true_xor, gFor]
        refine ⟨pos [], pos t2, none, 1 + pr, rfl, qe.pos, by omega, by omega, ?_⟩
        refine ⟨_, _, rfl, ?_⟩
        rw [decide_eq_true (show costP (pos []) (pos t2) none (1 + pr) = 0 from (cost_due qe q2 (.inl ⟨rfl, rfl⟩)).trans rfl)]
        try simp only [ownLst, ownObj, mTake, mOf, fAndV, fOrV, fArgs, fCons, fNil, fVar_0, fVar_s, fUn, fBin, fBool, startE, envOf, slot, gSeq, frzE, gComp, gCompD, wipe_nil, wipe_cons, List.map_cons, List.map_nil, List.cons_append, List.nil_append, List.append_nil, true_and, and_true, List.set_cons_zero, List.set_cons_succ, List.length_cons, List.length_nil, List.replicate_succ, List.replicate_zero, Nat.reduceSub, Nat.reduceAdd, Nat.reduceLT, DEnds.fn, bOf_bl, eq_self, reduceIte, Bool.false_eq_true, gNotV_bl, Bool.not_true, Bool.not_false, g2I_int, g2I0_int, g1I_int, gLen_lst, gLen_tup, gInt_int, gMax2_int, gMin2_int, gIsN_non, gIsN_obj, gIsN_dT, gIsN_dK, gIsN_int, xsOf_lst, tsOf_tup, gIx_t0, gIx_t1, gIx_l0, gIx_l1, gIx_l2, iOf_int, gSlS_str, gCatS_str, gRepS_str, gFind_str, gEqA_int, gEqA_str, gEqA_bl, gTup, gLst, Option.isSome_some, Bool.false_xor, Bool.true_xor, gFor]
        refine ⟨pos t2, pos t0, none, 5, rfl, q2.pos, by decide, by decide, ?_⟩
        refine ⟨t2, [], 5, t0, rfl, q2.ok, by decide, by decide, ?_⟩
        refine ⟨_, _, rfl, ?_⟩
        rw [decide_eq_true (cost_due q2 q0 (.inl ⟨rfl, rfl⟩))]
        try simp only [ownLst, ownObj, mTake, mOf, fAndV, fOrV, fArgs, fCons, fNil, fVar_0, fVar_s, fUn, fBin, fBool, startE, envOf, slot, gSeq, frzE, gComp, gCompD, wipe_nil, wipe_cons, List.map_cons, List.map_nil, List.cons_append, List.nil_append, List.append_nil, true_and, and_true, List.set_cons_zero, List.set_cons_succ, List.length_cons, List.length_nil, List.replicate_succ, List.replicate_zero, Nat.reduceSub, Nat.reduceAdd, Nat.reduceLT, DEnds.fn, bOf_bl, eq_self, reduceIte, Bool.false_eq_true, gNotV_bl, Bool.not_true, Bool.not_false, g2I_int, g2I0_int, g1I_int, gLen_lst, gLen_tup, gInt_int, gMax2_int, gMin2_int, gIsN_non, gIsN_obj, gIsN_dT, gIsN_dK, gIsN_int, xsOf_lst, tsOf_tup, gIx_t0, gIx_t1, gIx_l0, gIx_l1, gIx_l2, iOf_int, gSlS_str, gCatS_str, gRepS_str, gFind_str, gEqA_int, gEqA_str, gEqA_bl, gTup, gLst, Option.isSome_some, Bool.false_xor, Bool.true_xor, gFor]
        refine ⟨t0, t2, rfl, q0.ok, ?_⟩
        refine ⟨pos t0, pos t2, rfl, q0.pos, ?_⟩
        try simp only [ownLst, ownObj, mTake, mOf, fAndV, fOrV, fArgs, fCons, fNil, fVar_0, fVar_s, fUn, fBin, fBool, startE, envOf, slot, gSeq, frzE, gComp, gCompD, wipe_nil, wipe_cons, List.map_cons, List.map_nil, List.cons_append, List.nil_append, List.append_nil, true_and, and_true, List.set_cons_zero, List.set_cons_succ, List.length_cons, List.length_nil, List.replicate_succ, List.replicate_zero, Nat.reduceSub, Nat.reduceAdd, Nat.reduceLT, DEnds.fn, bOf_bl, eq_self, reduceIte, Bool.false_eq_true, gNotV_bl, Bool.not_true, Bool.not_false, g2I_int, g2I0_int, g1I_int, gLen_lst, gLen_tup, gInt_int, gMax2_int, gMin2_int, gIsN_non, gIsN_obj, gIsN_dT, gIsN_dK, gIsN_int, xsOf_lst, tsOf_tup, gIx_t0, gIx_t1, gIx_l0, gIx_l1, gIx_l2, iOf_int, gSlS_str, gCatS_str, gRepS_str, gFind_str, gEqA_int, gEqA_str, gEqA_bl, gTup, gLst, Option.isSome_some, Bool.false_xor, Bool.true_xor, gFor]
        rw [back_due q0 q2]
        refine ⟨_, _, rfl, dueB_ok q0, dueB_ok q0, dueB_len q0, rfl, ?_⟩
        rw [decide_eq_true rfl]
        try simp only [ownLst, ownObj, mTake, mOf, fAndV, fOrV, fArgs, fCons, fNil, fVar_0, fVar_s, fUn, fBin, fBool, startE, envOf, slot, gSeq, frzE, gComp, gCompD, wipe_nil, wipe_cons, List.map_cons, List.map_nil, List.cons_append, List.nil_append, List.append_nil, true_and, and_true, List.set_cons_zero, List.set_cons_succ, List.length_cons, List.length_nil, List.replicate_succ, List.replicate_zero, Nat.reduceSub, Nat.reduceAdd, Nat.reduceLT, DEnds.fn, bOf_bl, eq_self, reduceIte, Bool.false_eq_true, gNotV_bl, Bool.not_true, Bool.not_false, g2I_int, g2I0_int, g1I_int, gLen_lst, gLen_tup, gInt_int, gMax2_int, gMin2_int, gIsN_non, gIsN_obj, gIsN_dT, gIsN_dK, gIsN_int, xsOf_lst, tsOf_tup, gIx_t0, gIx_t1, gIx_l0, gIx_l1, gIx_l2, iOf_int, gSlS_str, gCatS_str, gRepS_str, gFind_str, gEqA_int, gEqA_str, gEqA_bl, gTup, gLst, Option.isSome_some, Bool.false_xor, Bool.true_xor, gFor]
        refine ⟨by decide, by decide, by rw [List.length_map, sz]; have := dueB_len (n := t2) q0; omega, gIx_last ⟨0, ix_first, ?_⟩⟩
        refine ⟨pos t2, pos t0, rfl, q2.pos, ?_⟩
        refine ⟨t2, t0, rfl, q2.ok, ?_⟩
        rw [back_due q2 q0]
        refine ⟨_, _, rfl, dueB_ok q2, dueB_ok q2, dueB_len q2, ?_⟩
        rw [decide_eq_true rfl]
        try simp only [ownLst, ownObj, mTake, mOf, fAndV, fOrV, fArgs, fCons, fNil, fVar_0, fVar_s, fUn, fBin, fBool, startE, envOf, slot, gSeq, frzE, gComp, gCompD, wipe_nil, wipe_cons, List.map_cons, List.map_nil, List.cons_append, List.nil_append, List.append_nil, true_and, and_true, List.set_cons_zero, List.set_cons_succ, List.length_cons, List.length_nil, List.replicate_succ, List.replicate_zero, Nat.reduceSub, Nat.reduceAdd, Nat.reduceLT, DEnds.fn, bOf_bl, eq_self, reduceIte, Bool.false_eq_true, gNotV_bl, Bool.not_true, Bool.not_false, g2I_int, g2I0_int, g1I_int, gLen_lst, gLen_tup, gInt_int, gMax2_int, gMin2_int, gIsN_non, gIsN_obj, gIsN_dT, gIsN_dK, gIsN_int, xsOf_lst, tsOf_tup, gIx_t0, gIx_t1, gIx_l0, gIx_l1, gIx_l2, iOf_int, gSlS_str, gCatS_str, gRepS_str, gFind_str, gEqA_int, gEqA_str, gEqA_bl, gTup, gLst, Option.isSome_some, Bool.false_xor, Bool.true_xor, gFor]
        refine ⟨pos [], pos t0, rfl, qe.pos, ?_⟩
        rw [back_due qe q0, dueB_nil]
        refine ⟨by decide, [], [], rfl, fun r h => (by cases h), fun r h => (by cases h), by decide, ?_⟩
        rw [decide_eq_true rfl]
        try simp only [ownLst, ownObj, mTake, mOf, fAndV, fOrV, fArgs, fCons, fNil, fVar_0, fVar_s, fUn, fBin, fBool, startE, envOf, slot, gSeq, frzE, gComp, gCompD, wipe_nil, wipe_cons, List.map_cons, List.map_nil, List.cons_append, List.nil_append, List.append_nil, true_and, and_true, List.set_cons_zero, List.set_cons_succ, List.length_cons, List.length_nil, List.replicate_succ, List.replicate_zero, Nat.reduceSub, Nat.reduceAdd, Nat.reduceLT, DEnds.fn, bOf_bl, eq_self, reduceIte, Bool.false_eq_true, gNotV_bl, Bool.not_true, Bool.not_false, g2I_int, g2I0_int, g1I_int, gLen_lst, gLen_tup, gInt_int, gMax2_int, gMin2_int, gIsN_non, gIsN_obj, gIsN_dT, gIsN_dK, gIsN_int, xsOf_lst, tsOf_tup, gIx_t0, gIx_t1, gIx_l0, gIx_l1, gIx_l2, iOf_int, gSlS_str, gCatS_str, gRepS_str, gFind_str, gEqA_int, gEqA_str, gEqA_bl, gTup, gLst, Option.isSome_some, Bool.false_xor, Bool.true_xor, gFor]
        refine ⟨pos t0, pos t2, rfl, q0.pos, ?_⟩
        rw [back_due q0 q2]
        refine ⟨_, _, rfl, dueB_ok q0, dueB_ok q0, dueB_len q0, ?_⟩
        rw [decide_eq_true rfl]
        try simp only [ownLst, ownObj, mTake, mOf, fAndV, fOrV, fArgs, fCons, fNil, fVar_0, fVar_s, fUn, fBin, fBool, startE, envOf, slot, gSeq, frzE, gComp, gCompD, wipe_nil, wipe_cons, List.map_cons, List.map_nil, List.cons_append, List.nil_append, List.append_nil, true_and, and_true, List.set_cons_zero, List.set_cons_succ, List.length_cons, List.length_nil, List.replicate_succ, List.replicate_zero, Nat.reduceSub, Nat.reduceAdd, Nat.reduceLT, DEnds.fn, bOf_bl, eq_self, reduceIte, Bool.false_eq_true, gNotV_bl, Bool.not_true, Bool.not_false, g2I_int, g2I0_int, g1I_int, gLen_lst, gLen_tup, gInt_int, gMax2_int, gMin2_int, gIsN_non, gIsN_obj, gIsN_dT, gIsN_dK, gIsN_int, xsOf_lst, tsOf_tup, gIx_t0, gIx_t1, gIx_l0, gIx_l1, gIx_l2, iOf_int, gSlS_str, gCatS_str, gRepS_str, gFind_str, gEqA_int, gEqA_str, gEqA_bl, gTup, gLst, Option.isSome_some, Bool.false_xor, Bool.true_xor, gFor]
        refine ⟨pos t0, pos [], rfl, q0.pos, ?_⟩
        refine ⟨t0, [], rfl, q0.ok, ?_⟩
        rw [back_due q0 qe]
        refine ⟨_, _, rfl, dueB_ok q0, dueB_ok q0, dueB_len q0, ?_⟩
        rw [decide_eq_true rfl]
        try simp only [ownLst, ownObj, mTake, mOf, fAndV, fOrV, fArgs, fCons, fNil, fVar_0, fVar_s, fUn, fBin, fBool, startE, envOf, slot, gSeq, frzE, gComp, gCompD, wipe_nil, wipe_cons, List.map_cons, List.map_nil, List.cons_append, List.nil_append, List.append_nil, true_and, and_true, List.set_cons_zero, List.set_cons_succ, List.length_cons, List.length_nil, List.replicate_succ, List.replicate_zero, Nat.reduceSub, Nat.reduceAdd, Nat.reduceLT, DEnds.fn, bOf_bl, eq_self, reduceIte, Bool.false_eq_true, gNotV_bl, Bool.not_true, Bool.not_false, g2I_int, g2I0_int, g1I_int, gLen_lst, gLen_tup, gInt_int, gMax2_int, gMin2_int, gIsN_non, gIsN_obj, gIsN_dT, gIsN_dK, gIsN_int, xsOf_lst, tsOf_tup, gIx_t0, gIx_t1, gIx_l0, gIx_l1, gIx_l2, iOf_int, gSlS_str, gCatS_str, gRepS_str, gFind_str, gEqA_int, gEqA_str, gEqA_bl, gTup, gLst, Option.isSome_some, Bool.false_xor, Bool.true_xor, gFor]
        refine ⟨by decide, by decide, ?_⟩
        refine compD_map (xs := List.range 3) (fun j : Nat => D.int (0 + (j : Int))) (fun _ => none) (fun j hj N hN => ?_) (by show 3 ≤ sizeLine; decide) ?_
        · have hj : j < 3 := List.mem_range.mp hj
          have ej : (0 : Int) + (j : Int) = (j : Int) := by omega
          refine ⟨_, rfl, ?_⟩
          rw [ej]
          try simp only [ownLst, ownObj, mTake, mOf, fAndV, fOrV, fArgs, fCons, fNil, fVar_0, fVar_s, fUn, fBin, fBool, startE, envOf, slot, gSeq, frzE, gComp, gCompD, wipe_nil, wipe_cons, List.map_cons, List.map_nil, List.cons_append, List.nil_append, List.append_nil, true_and, and_true, List.set_cons_zero, List.set_cons_succ, List.length_cons, List.length_nil, List.replicate_succ, List.replicate_zero, Nat.reduceSub, Nat.reduceAdd, Nat.reduceLT, DEnds.fn, bOf_bl, eq_self, reduceIte, Bool.false_eq_true, gNotV_bl, Bool.not_true, Bool.not_false, g2I_int, g2I0_int, g1I_int, gLen_lst, gLen_tup, gInt_int, gMax2_int, gMin2_int, gIsN_non, gIsN_obj, gIsN_dT, gIsN_dK, gIsN_int, xsOf_lst, tsOf_tup, gIx_t0, gIx_t1, gIx_l0, gIx_l1, gIx_l2, iOf_int, gSlS_str, gCatS_str, gRepS_str, gFind_str, gEqA_int, gEqA_str, gEqA_bl, gTup, gLst, Option.isSome_some, Bool.false_xor, Bool.true_xor, gFor]
          obtain rfl | rfl | rfl : j = 0 ∨ j = 1 ∨ j = 2 := by omega
          · refine gIx_nat (k := 0) (d := planD C_Plan (pos t0)) rfl ?_
            try simp only [ownLst, ownObj, mTake, mOf, fAndV, fOrV, fArgs, fCons, fNil, fVar_0, fVar_s, fUn, fBin, fBool, startE, envOf, slot, gSeq, frzE, gComp, gCompD, wipe_nil, wipe_cons, List.map_cons, List.map_nil, List.cons_append, List.nil_append, List.append_nil, true_and, and_true, List.set_cons_zero, List.set_cons_succ, List.length_cons, List.length_nil, List.replicate_succ, List.replicate_zero, Nat.reduceSub, Nat.reduceAdd, Nat.reduceLT, DEnds.fn, bOf_bl, eq_self, reduceIte, Bool.false_eq_true, gNotV_bl, Bool.not_true, Bool.not_false, g2I_int, g2I0_int, g1I_int, gLen_lst, gLen_tup, gInt_int, gMax2_int, gMin2_int, gIsN_non, gIsN_obj, gIsN_dT, gIsN_dK, gIsN_int, xsOf_lst, tsOf_tup, gIx_t0, gIx_t1, gIx_l0, gIx_l1, gIx_l2, iOf_int, gSlS_str, gCatS_str, gRepS_str, gFind_str, gEqA_int, gEqA_str, gEqA_bl, gTup, gLst, Option.isSome_some, Bool.false_xor, Bool.true_xor, gFor]
            refine gIx_nat (k := 0) (d := tabD t0) rfl ?_
            refine ⟨t0, rfl, q0, ?_⟩
            try simp only [ownLst, ownObj, mTake, mOf, fAndV, fOrV, fArgs, fCons, fNil, fVar_0, fVar_s, fUn, fBin, fBool, startE, envOf, slot, gSeq, frzE, gComp, gCompD, wipe_nil, wipe_cons, List.map_cons, List.map_nil, List.cons_append, List.nil_append, List.append_nil, true_and, and_true, List.set_cons_zero, List.set_cons_succ, List.length_cons, List.length_nil, List.replicate_succ, List.replicate_zero, Nat.reduceSub, Nat.reduceAdd, Nat.reduceLT, DEnds.fn, bOf_bl, eq_self, reduceIte, Bool.false_eq_true, gNotV_bl, Bool.not_true, Bool.not_false, g2I_int, g2I0_int, g1I_int, gLen_lst, gLen_tup, gInt_int, gMax2_int, gMin2_int, gIsN_non, gIsN_obj, gIsN_dT, gIsN_dK, gIsN_int, xsOf_lst, tsOf_tup, gIx_t0, gIx_t1, gIx_l0, gIx_l1, gIx_l2, iOf_int, gSlS_str, gCatS_str, gRepS_str, gFind_str, gEqA_int, gEqA_str, gEqA_bl, gTup, gLst, Option.isSome_some, Bool.false_xor, Bool.true_xor, gFor]
            exact hN
          · refine gIx_nat (k := 1) (d := planD C_Plan (pos t1)) rfl ?_
            try simp only [ownLst, ownObj, mTake, mOf, fAndV, fOrV, fArgs, fCons, fNil, fVar_0, fVar_s, fUn, fBin, fBool, startE, envOf, slot, gSeq, frzE, gComp, gCompD, wipe_nil, wipe_cons, List.map_cons, List.map_nil, List.cons_append, List.nil_append, List.append_nil, true_and, and_true, List.set_cons_zero, List.set_cons_succ, List.length_cons, List.length_nil, List.replicate_succ, List.replicate_zero, Nat.reduceSub, Nat.reduceAdd, Nat.reduceLT, DEnds.fn, bOf_bl, eq_self, reduceIte, Bool.false_eq_true, gNotV_bl, Bool.not_true, Bool.not_false, g2I_int, g2I0_int, g1I_int, gLen_lst, gLen_tup, gInt_int, gMax2_int, gMin2_int, gIsN_non, gIsN_obj, gIsN_dT, gIsN_dK, gIsN_int, xsOf_lst, tsOf_tup, gIx_t0, gIx_t1, gIx_l0, gIx_l1, gIx_l2, iOf_int, gSlS_str, gCatS_str, gRepS_str, gFind_str, gEqA_int, gEqA_str, gEqA_bl, gTup, gLst, Option.isSome_some, Bool.false_xor, Bool.true_xor, gFor]
            refine gIx_nat (k := 1) (d := tabD t1) rfl ?_
            refine ⟨t1, rfl, q1, ?_⟩
            try simp only [ownLst, ownObj, mTake, mOf, fAndV, fOrV, fArgs, fCons, fNil, fVar_0, fVar_s, fUn, fBin, fBool, startE, envOf, slot, gSeq, frzE, gComp, gCompD, wipe_nil, wipe_cons, List.map_cons, List.map_nil, List.cons_append, List.nil_append, List.append_nil, true_and, and_true, List.set_cons_zero, List.set_cons_succ, List.length_cons, List.length_nil, List.replicate_succ, List.replicate_zero, Nat.reduceSub, Nat.reduceAdd, Nat.reduceLT, DEnds.fn, bOf_bl, eq_self, reduceIte, Bool.false_eq_true, gNotV_bl, Bool.not_true, Bool.not_false, g2I_int, g2I0_int, g1I_int, gLen_lst, gLen_tup, gInt_int, gMax2_int, gMin2_int, gIsN_non, gIsN_obj, gIsN_dT, gIsN_dK, gIsN_int, xsOf_lst, tsOf_tup, gIx_t0, gIx_t1, gIx_l0, gIx_l1, gIx_l2, iOf_int, gSlS_str, gCatS_str, gRepS_str, gFind_str, gEqA_int, gEqA_str, gEqA_bl, gTup, gLst, Option.isSome_some, Bool.false_xor, Bool.true_xor, gFor]
            exact hN
          · refine gIx_nat (k := 2) (d := planD C_Plan (pos t2)) rfl ?_
            try simp only [ownLst, ownObj, mTake, mOf, fAndV, fOrV, fArgs, fCons, fNil, fVar_0, fVar_s, fUn, fBin, fBool, startE, envOf, slot, gSeq, frzE, gComp, gCompD, wipe_nil, wipe_cons, List.map_cons, List.map_nil, List.cons_append, List.nil_append, List.append_nil, true_and, and_true, List.set_cons_zero, List.set_cons_succ, List.length_cons, List.length_nil, List.replicate_succ, List.replicate_zero, Nat.reduceSub, Nat.reduceAdd, Nat.reduceLT, DEnds.fn, bOf_bl, eq_self, reduceIte, Bool.false_eq_true, gNotV_bl, Bool.not_true, Bool.not_false, g2I_int, g2I0_int, g1I_int, gLen_lst, gLen_tup, gInt_int, gMax2_int, gMin2_int, gIsN_non, gIsN_obj, gIsN_dT, gIsN_dK, gIsN_int, xsOf_lst, tsOf_tup, gIx_t0, gIx_t1, gIx_l0, gIx_l1, gIx_l2, iOf_int, gSlS_str, gCatS_str, gRepS_str, gFind_str, gEqA_int, gEqA_str, gEqA_bl, gTup, gLst, Option.isSome_some, Bool.false_xor, Bool.true_xor, gFor]
            refine gIx_nat (k := 2) (d := tabD t2) rfl ?_
            refine ⟨t2, rfl, q2, ?_⟩
            try simp only [ownLst, ownObj, mTake, mOf, fAndV, fOrV, fArgs, fCons, fNil, fVar_0, fVar_s, fUn, fBin, fBool, startE, envOf, slot, gSeq, frzE, gComp, gCompD, wipe_nil, wipe_cons, List.map_cons, List.map_nil, List.cons_append, List.nil_append, List.append_nil, true_and, and_true, List.set_cons_zero, List.set_cons_succ, List.length_cons, List.length_nil, List.replicate_succ, List.replicate_zero, Nat.reduceSub, Nat.reduceAdd, Nat.reduceLT, DEnds.fn, bOf_bl, eq_self, reduceIte, Bool.false_eq_true, gNotV_bl, Bool.not_true, Bool.not_false, g2I_int, g2I0_int, g1I_int, gLen_lst, gLen_tup, gInt_int, gMax2_int, gMin2_int, gIsN_non, gIsN_obj, gIsN_dT, gIsN_dK, gIsN_int, xsOf_lst, tsOf_tup, gIx_t0, gIx_t1, gIx_l0, gIx_l1, gIx_l2, iOf_int, gSlS_str, gCatS_str, gRepS_str, gFind_str, gEqA_int, gEqA_str, gEqA_bl, gTup, gLst, Option.isSome_some, Bool.false_xor, Bool.true_xor, gFor]
            exact hN
        · have e : (List.range 3).filterMap (fun _ => (none : Option D)) = [] := rfl
          rw [e]
          try simp only [ownLst, ownObj, mTake, mOf, fAndV, fOrV, fArgs, fCons, fNil, fVar_0, fVar_s, fUn, fBin, fBool, startE, envOf, slot, gSeq, frzE, gComp, gCompD, wipe_nil, wipe_cons, List.map_cons, List.map_nil, List.cons_append, List.nil_append, List.append_nil, true_and, and_true, List.set_cons_zero, List.set_cons_succ, List.length_cons, List.length_nil, List.replicate_succ, List.replicate_zero, Nat.reduceSub, Nat.reduceAdd, Nat.reduceLT, DEnds.fn, bOf_bl, eq_self, reduceIte, Bool.false_eq_true, gNotV_bl, Bool.not_true, Bool.not_false, g2I_int, g2I0_int, g1I_int, gLen_lst, gLen_tup, gInt_int, gMax2_int, gMin2_int, gIsN_non, gIsN_obj, gIsN_dT, gIsN_dK, gIsN_int, xsOf_lst, tsOf_tup, gIx_t0, gIx_t1, gIx_l0, gIx_l1, gIx_l2, iOf_int, gSlS_str, gCatS_str, gRepS_str, gFind_str, gEqA_int, gEqA_str, gEqA_bl, gTup, gLst, Option.isSome_some, Bool.false_xor, Bool.true_xor, gFor]
          have er : rows (pos []) = [] := by simp [rows, sk, pos]
          refine ⟨⟨rfl, rfl⟩, pos [], rfl, qe.pos, ?_⟩
          rw [er]
          refine ⟨by decide, [], [], rfl, fun r h => (by cases h), fun r h => (by cases h), by decide, ?_⟩
          rw [decide_eq_true rfl]
          exact rfl
    · rw [decide_eq_false hk]
      try simp only [ownLst, ownObj, mTake, mOf, fAndV, fOrV, fArgs, fCons, fNil, fVar_0, fVar_s, fUn, fBin, fBool, startE, envOf, slot, gSeq, frzE, gComp, gCompD, wipe_nil, wipe_cons, List.map_cons, List.map_nil, List.cons_append, List.nil_append, List.append_nil, true_and, and_true, List.set_cons_zero, List.set_cons_succ, List.length_cons, List.length_nil, List.replicate_succ, List.replicate_zero, Nat.reduceSub, Nat.reduceAdd, Nat.reduceLT, DEnds.fn, bOf_bl, eq_self, reduceIte, Bool.false_eq_true, gNotV_bl, Bool.not_true, Bool.not_false, g2I_int, g2I0_int, g1I_int, gLen_lst, gLen_tup, gInt_int, gMax2_int, gMin2_int, gIsN_non, gIsN_obj, gIsN_dT, gIsN_dK, gIsN_int, xsOf_lst, tsOf_tup, gIx_t0, gIx_t1, gIx_l0, gIx_l1, gIx_l2, iOf_int, gSlS_str, gCatS_str, gRepS_str, gFind_str, gEqA_int, gEqA_str, gEqA_bl, gTup, gLst, Option.isSome_some, Bool.false_xor, Bool.true_xor, gFor]
      by_cases hpr : pr = 0
      · rw [decide_eq_true hpr]
        try simp only [ownLst, ownObj, mTake, mOf, fAndV, fOrV, fArgs, fCons, fNil, fVar_0, fVar_s, fUn, fBin, fBool, startE, envOf, slot, gSeq, frzE, gComp, gCompD, wipe_nil, wipe_cons, List.map_cons, List.map_nil, List.cons_append, List.nil_append, List.append_nil, true_and, and_true, List.set_cons_zero, List.set_cons_succ, List.length_cons, List.length_nil, List.replicate_succ, List.replicate_zero, Nat.reduceSub, Nat.reduceAdd, Nat.reduceLT, DEnds.fn, bOf_bl, eq_self, reduceIte, Bool.false_eq_true, gNotV_bl, Bool.not_true, Bool.not_false, g2I_int, g2I0_int, g1I_int, gLen_lst, gLen_tup, gInt_int, gMax2_int, gMin2_int, gIsN_non, gIsN_obj, gIsN_dT, gIsN_dK, gIsN_int, xsOf_lst, tsOf_tup, gIx_t0, gIx_t1, gIx_l0, gIx_l1, gIx_l2, iOf_int, gSlS_str, gCatS_str, gRepS_str, gFind_str, gEqA_int, gEqA_str, gEqA_bl, gTup, gLst, Option.isSome_some, Bool.false_xor, Bool.true_xor, gFor]
        refine ⟨[], rfl, .inl ⟨rfl, rfl⟩, qe.ok, rfl, ?_⟩
        refine ⟨pos t0, pos t2, none, kd, pr, rfl, q0.pos, hp0, hp1, ?_⟩
        refine ⟨t0, [], 5, t2, rfl, q0.ok, by decide, by decide, ?_⟩
        refine ⟨_, _, rfl, ?_⟩
        rw [decide_eq_true (by rw [ite_self, if_pos hpr]; exact cost_due q0 q2 (.inl ⟨rfl, rfl⟩))]
        try simp only [ownLst, ownObj, mTake, mOf, fAndV, fOrV, fArgs, fCons, fNil, fVar_0, fVar_s, fUn, fBin, fBool, startE, envOf, slot, gSeq, frzE, gComp, gCompD, wipe_nil, wipe_cons, List.map_cons, List.map_nil, List.cons_append, List.nil_append, List.append_nil, true_and, and_true, List.set_cons_zero, List.set_cons_succ, List.length_cons, List.length_nil, List.replicate_succ, List.replicate_zero, Nat.reduceSub, Nat.reduceAdd, Nat.reduceLT, DEnds.fn, bOf_bl, eq_self, reduceIte, Bool.false_eq_true, gNotV_bl, Bool.not_true, Bool.not_false, g2I_int, g2I0_int, g1I_int, gLen_lst, gLen_tup, gInt_int, gMax2_int, gMin2_int, gIsN_non, gIsN_obj, gIsN_dT, gIsN_dK, gIsN_int, xsOf_lst, tsOf_tup, gIx_t0, gIx_t1, gIx_l0, gIx_l1, gIx_l2, iOf_int, gSlS_str, gCatS_str, gRepS_str, gFind_str, gEqA_int, gEqA_str, gEqA_bl, gTup, gLst, Option.isSome_some, Bool.false_xor, Bool.true_xor, gFor]
        refine ⟨pos t0, pos [], none, kd, pr, rfl, q0.pos, hp0, hp1, ?_⟩
        refine ⟨t0, [], 5, [], rfl, q0.ok, by decide, by decide, ?_⟩
        refine ⟨_, _, rfl, ?_⟩
        rw [decide_eq_true (by rw [ite_self, if_pos hpr]; exact cost_due q0 qe (.inl ⟨rfl, rfl⟩))]
        try simp only [ownLst, ownObj, mTake, mOf, fAndV, fOrV, fArgs, fCons, fNil, fVar_0, fVar_s, fUn, fBin, fBool, startE, envOf, slot, gSeq, frzE, gComp, gCompD, wipe_nil, wipe_cons, List.map_cons, List.map_nil, List.cons_append, List.nil_append, List.append_nil, true_and, and_true, List.set_cons_zero, List.set_cons_succ, List.length_cons, List.length_nil, List.replicate_succ, List.replicate_zero, Nat.reduceSub, Nat.reduceAdd, Nat.reduceLT, DEnds.fn, bOf_bl, eq_self, reduceIte, Bool.false_eq_true, gNotV_bl, Bool.not_true, Bool.not_false, g2I_int, g2I0_int, g1I_int, gLen_lst, gLen_tup, gInt_int, gMax2_int, gMin2_int, gIsN_non, gIsN_obj, gIsN_dT, gIsN_dK, gIsN_int, xsOf_lst, tsOf_tup, gIx_t0, gIx_t1, gIx_l0, gIx_l1, gIx_l2, iOf_int, gSlS_str, gCatS_str, gRepS_str, gFind_str, gEqA_int, gEqA_str, gEqA_bl, gTup, gLst, Option.isSome_some, Bool.false_xor, Bool.true_xor, gFor]
        refine ⟨pos [], pos t2, none, 1 + pr, rfl, qe.pos, by omega, by omega, ?_⟩
        refine ⟨_, _, rfl, ?_⟩
        rw [decide_eq_true (show costP (pos []) (pos t2) none (1 + pr) = 0 from (cost_due qe q2 (.inl ⟨rfl, rfl⟩)).trans rfl)]
        try simp only [ownLst, ownObj, mTake, mOf, fAndV, fOrV, fArgs, fCons, fNil, fVar_0, fVar_s, fUn, fBin, fBool, startE, envOf, slot, gSeq, frzE, gComp, gCompD, wipe_nil, wipe_cons, List.map_cons, List.map_nil, List.cons_append, List.nil_append, List.append_nil, true_and, and_true, List.set_cons_zero, List.set_cons_succ, List.length_cons, List.length_nil, List.replicate_succ, List.replicate_zero, Nat.reduceSub, Nat.reduceAdd, Nat.reduceLT, DEnds.fn, bOf_bl, eq_self, reduceIte, Bool.false_eq_true, gNotV_bl, Bool.not_true, Bool.not_false, g2I_int, g2I0_int, g1I_int, gLen_lst, gLen_tup, gInt_int, gMax2_int, gMin2_int, gIsN_non, gIsN_obj, gIsN_dT, gIsN_dK, gIsN_int, xsOf_lst, tsOf_tup, gIx_t0, gIx_t1, gIx_l0, gIx_l1, gIx_l2, iOf_int, gSlS_str, gCatS_str, gRepS_str, gFind_str, gEqA_int, gEqA_str, gEqA_bl, gTup, gLst, Option.isSome_some, Bool.false_xor, Bool.true_xor, gFor]
        refine ⟨pos t2, pos t0, none, 5, rfl, q2.pos, by decide, by decide, ?_⟩
        refine ⟨t2, [], 5, t0, rfl, q2.ok, by decide, by decide, ?_⟩
        refine ⟨_, _, rfl, ?_⟩
        rw [decide_eq_true (cost_due q2 q0 (.inl ⟨rfl, rfl⟩))]
        try simp only [ownLst, ownObj, mTake, mOf, fAndV, fOrV, fArgs, fCons, fNil, fVar_0, fVar_s, fUn, fBin, fBool, startE, envOf, slot, gSeq, frzE, gComp, gCompD, wipe_nil, wipe_cons, List.map_cons, List.map_nil, List.cons_append, List.nil_append, List.append_nil, true_and, and_true, List.set_cons_zero, List.set_cons_succ, List.length_cons, List.length_nil, List.replicate_succ, List.replicate_zero, Nat.reduceSub, Nat.reduceAdd, Nat.reduceLT, DEnds.fn, bOf_bl, eq_self, reduceIte, Bool.false_eq_true, gNotV_bl, Bool.not_true, Bool.not_false, g2I_int, g2I0_int, g1I_int, gLen_lst, gLen_tup, gInt_int, gMax2_int, gMin2_int, gIsN_non, gIsN_obj, gIsN_dT, gIsN_dK, gIsN_int, xsOf_lst, tsOf_tup, gIx_t0, gIx_t1, gIx_l0, gIx_l1, gIx_l2, iOf_int, gSlS_str, gCatS_str, gRepS_str, gFind_str, gEqA_int, gEqA_str, gEqA_bl, gTup, gLst, Option.isSome_some, Bool.false_xor, Bool.true_xor, gFor]
        refine ⟨t0, t2, rfl, q0.ok, ?_⟩
        refine ⟨pos t0, pos t2, rfl, q0.pos, ?_⟩
        try simp only [ownLst, ownObj, mTake, mOf, fAndV, fOrV, fArgs, fCons, fNil, fVar_0, fVar_s, fUn, fBin, fBool, startE, envOf, slot, gSeq, frzE, gComp, gCompD, wipe_nil, wipe_cons, List.map_cons, List.map_nil, List.cons_append, List.nil_append, List.append_nil, true_and, and_true, List.set_cons_zero, List.set_cons_succ, List.length_cons, List.length_nil, List.replicate_succ, List.replicate_zero, Nat.reduceSub, Nat.reduceAdd, Nat.reduceLT, DEnds.fn, bOf_bl, eq_self, reduceIte, Bool.false_eq_true, gNotV_bl, Bool.not_true, Bool.not_false, g2I_int, g2I0_int, g1I_int, gLen_lst, gLen_tup, gInt_int, gMax2_int, gMin2_int, gIsN_non, gIsN_obj, gIsN_dT, gIsN_dK, gIsN_int, xsOf_lst, tsOf_tup, gIx_t0, gIx_t1, gIx_l0, gIx_l1, gIx_l2, iOf_int, gSlS_str, gCatS_str, gRepS_str, gFind_str, gEqA_int, gEqA_str, gEqA_bl, gTup, gLst, Option.isSome_some, Bool.false_xor, Bool.true_xor, gFor]
        rw [back_due q0 q2]
        refine ⟨_, _, rfl, dueB_ok q0, dueB_ok q0, dueB_len q0, rfl, ?_⟩
        rw [decide_eq_true rfl]
        try simp only [ownLst, ownObj, mTake, mOf, fAndV, fOrV, fArgs, fCons, fNil, fVar_0, fVar_s, fUn, fBin, fBool, startE, envOf, slot, gSeq, frzE, gComp, gCompD, wipe_nil, wipe_cons, List.map_cons, List.map_nil, List.cons_append, List.nil_append, List.append_nil, true_and, and_true, List.set_cons_zero, List.set_cons_succ, List.length_cons, List.length_nil, List.replicate_succ, List.replicate_zero, Nat.reduceSub, Nat.reduceAdd, Nat.reduceLT, DEnds.fn, bOf_bl, eq_self, reduceIte, Bool.false_eq_true, gNotV_bl, Bool.not_true, Bool.not_false, g2I_int, g2I0_int, g1I_int, gLen_lst, gLen_tup, gInt_int, gMax2_int, gMin2_int, gIsN_non, gIsN_obj, gIsN_dT, gIsN_dK, gIsN_int, xsOf_lst, tsOf_tup, gIx_t0, gIx_t1, gIx_l0, gIx_l1, gIx_l2, iOf_int, gSlS_str, gCatS_str, gRepS_str, gFind_str, gEqA_int, gEqA_str, gEqA_bl, gTup, gLst, Option.isSome_some, Bool.false_xor, Bool.true_xor, gFor]
        refine ⟨by decide, by decide, by rw [List.length_map, sz]; have := dueB_len (n := t2) q0; omega, gIx_last ⟨0, ix_first, ?_⟩⟩
        refine ⟨pos t2, pos t0, rfl, q2.pos, ?_⟩
        refine ⟨t2, t0, rfl, q2.ok, ?_⟩
        rw [back_due q2 q0]
        refine ⟨_, _, rfl, dueB_ok q2, dueB_ok q2, dueB_len q2, ?_⟩
        rw [decide_eq_true rfl]
        try simp only [ownLst, ownObj, mTake, mOf, fAndV, fOrV, fArgs, fCons, fNil, fVar_0, fVar_s, fUn, fBin, fBool, startE, envOf, slot, gSeq, frzE, gComp, gCompD, wipe_nil, wipe_cons, List.map_cons, List.map_nil, List.cons_append, List.nil_append, List.append_nil, true_and, and_true, List.set_cons_zero, List.set_cons_succ, List.length_cons, List.length_nil, List.replicate_succ, List.replicate_zero, Nat.reduceSub, Nat.reduceAdd, Nat.reduceLT, DEnds.fn, bOf_bl, eq_self, reduceIte, Bool.false_eq_true, gNotV_bl, Bool.not_true, Bool.not_false, g2I_int, g2I0_int, g1I_int, gLen_lst, gLen_tup, gInt_int, gMax2_int, gMin2_int, gIsN_non, gIsN_obj, gIsN_dT, gIsN_dK, gIsN_int, xsOf_lst, tsOf_tup, gIx_t0, gIx_t1, gIx_l0, gIx_l1, gIx_l2, iOf_int, gSlS_str, gCatS_str, gRepS_str, gFind_str, gEqA_int, gEqA_str, gEqA_bl, gTup, gLst, Option.isSome_some, Bool.false_xor, Bool.true_xor, gFor]
        refine ⟨pos [], pos t0, rfl, qe.pos, ?_⟩
        rw [back_due qe q0, dueB_nil]
        refine ⟨by decide, [], [], rfl, fun r h => (by cases h), fun r h => (by cases h), by decide, ?_⟩
        rw [decide_eq_true rfl]
        try simp only [ownLst, ownObj, mTake, mOf, fAndV, fOrV, fArgs, fCons, fNil, fVar_0, fVar_s, fUn, fBin, fBool, startE, envOf, slot, gSeq, frzE, gComp, gCompD, wipe_nil, wipe_cons, List.map_cons, List.map_nil, List.cons_append, List.nil_append, List.append_nil, true_and, and_true, List.set_cons_zero, List.set_cons_succ, List.length_cons, List.length_nil, List.replicate_succ, List.replicate_zero, Nat.reduceSub, Nat.reduceAdd, Nat.reduceLT, DEnds.fn, bOf_bl, eq_self, reduceIte, Bool.false_eq_true, gNotV_bl, Bool.not_true, Bool.not_false, g2I_int, g2I0_int, g1I_int, gLen_lst, gLen_tup, gInt_int, gMax2_int, gMin2_int, gIsN_non, gIsN_obj, gIsN_dT, gIsN_dK, gIsN_int, xsOf_lst, tsOf_tup, gIx_t0, gIx_t1, gIx_l0, gIx_l1, gIx_l2, iOf_int, gSlS_str, gCatS_str, gRepS_str, gFind_str, gEqA_int, gEqA_str, gEqA_bl, gTup, gLst, Option.isSome_some, Bool.false_xor, Bool.true_xor, gFor]
        refine ⟨pos t0, pos t2, rfl, q0.pos, ?_⟩
        rw [back_due q0 q2]
        refine ⟨_, _, rfl, dueB_ok q0, dueB_ok q0, dueB_len q0, ?_⟩
        rw [decide_eq_true rfl]
        try simp only [ownLst, ownObj, mTake, mOf, fAndV, fOrV, fArgs, fCons, fNil, fVar_0, fVar_s, fUn, fBin, fBool, startE, envOf, slot, gSeq, frzE, gComp, gCompD, wipe_nil, wipe_cons, List.map_cons, List.map_nil, List.cons_append, List.nil_append, List.append_nil, true_and, and_true, List.set_cons_zero, List.set_cons_succ, List.length_cons, List.length_nil, List.replicate_succ, List.replicate_zero, Nat.reduceSub, Nat.reduceAdd, Nat.reduceLT, DEnds.fn, bOf_bl, eq_self, reduceIte, Bool.false_eq_true, gNotV_bl, Bool.not_true, Bool.not_false, g2I_int, g2I0_int, g1I_int, gLen_lst, gLen_tup, gInt_int, gMax2_int, gMin2_int, gIsN_non, gIsN_obj, gIsN_dT, gIsN_dK, gIsN_int, xsOf_lst, tsOf_tup, gIx_t0, gIx_t1, gIx_l0, gIx_l1, gIx_l2, iOf_int, gSlS_str, gCatS_str, gRepS_str, gFind_str, gEqA_int, gEqA_str, gEqA_bl, gTup, gLst, Option.isSome_some, Bool.false_xor, Bool.true_xor, gFor]
        refine ⟨pos t0, pos [], rfl, q0.pos, ?_⟩
        refine ⟨t0, [], rfl, q0.ok, ?_⟩
        rw [back_due q0 qe]
        refine ⟨_, _, rfl, dueB_ok q0, dueB_ok q0, dueB_len q0, ?_⟩
        rw [decide_eq_true rfl]
        try simp only [ownLst, ownObj, mTake, mOf, fAndV, fOrV, fArgs, fCons, fNil, fVar_0, fVar_s, fUn, fBin, fBool, startE, envOf, slot, gSeq, frzE, gComp, gCompD, wipe_nil, wipe_cons, List.map_cons, List.map_nil, List.cons_append, List.nil_append, List.append_nil, true_and, and_true, List.set_cons_zero, List.set_cons_succ, List.length_cons, List.length_nil, List.replicate_succ, List.replicate_zero, Nat.reduceSub, Nat.reduceAdd, Nat.reduceLT, DEnds.fn, bOf_bl, eq_self, reduceIte, Bool.false_eq_true, gNotV_bl, Bool.not_true, Bool.not_false, g2I_int, g2I0_int, g1I_int, gLen_lst, gLen_tup, gInt_int, gMax2_int, gMin2_int, gIsN_non, gIsN_obj, gIsN_dT, gIsN_dK, gIsN_int, xsOf_lst, tsOf_tup, gIx_t0, gIx_t1, gIx_l0, gIx_l1, gIx_l2, iOf_int, gSlS_str, gCatS_str, gRepS_str, gFind_str, gEqA_int, gEqA_str, gEqA_bl, gTup, gLst, Option.isSome_some, Bool.false_xor, Bool.true_xor, gFor]
        refine ⟨by decide, by decide, ?_⟩
        refine compD_map (xs := List.range 3) (fun j : Nat => D.int (0 + (j : Int))) (fun _ => none) (fun j hj N hN => ?_) (by show 3 ≤ sizeLine; decide) ?_
        · have hj : j < 3 := List.mem_range.mp hj
          have ej : (0 : Int) + (j : Int) = (j : Int) := by omega
          refine ⟨_, rfl, ?_⟩
          rw [ej]
          try simp only [ownLst, ownObj, mTake, mOf, fAndV, fOrV, fArgs, fCons, fNil, fVar_0, fVar_s, fUn, fBin, fBool, startE, envOf, slot, gSeq, frzE, gComp, gCompD, wipe_nil, wipe_cons, List.map_cons, List.map_nil, List.cons_append, List.nil_append, List.append_nil, true_and, and_true, List.set_cons_zero, List.set_cons_succ, List.length_cons, List.length_nil, List.replicate_succ, List.replicate_zero, Nat.reduceSub, Nat.reduceAdd, Nat.reduceLT, DEnds.fn, bOf_bl, eq_self, reduceIte, Bool.false_eq_true, gNotV_bl, Bool.not_true, Bool.not_false, g2I_int, g2I0_int, g1I_int, gLen_lst, gLen_tup, gInt_int, gMax2_int, gMin2_int, gIsN_non, gIsN_obj, gIsN_dT, gIsN_dK, gIsN_int, xsOf_lst, tsOf_tup, gIx_t0, gIx_t1, gIx_l0, gIx_l1, gIx_l2, iOf_int, gSlS_str, gCatS_str, gRepS_str, gFind_str, gEqA_int, gEqA_str, gEqA_bl, gTup, gLst, Option.isSome_some, Bool.false_xor, Bool.true_xor, gFor]
          obtain rfl | rfl | rfl : j = 0 ∨ j = 1 ∨ j = 2 := by omega
          · refine gIx_nat (k := 0) (d := planD C_Plan (pos t0)) rfl ?_
            try simp only [ownLst, ownObj, mTake, mOf, fAndV, fOrV, fArgs, fCons, fNil, fVar_0, fVar_s, fUn, fBin, fBool, startE, envOf, slot, gSeq, frzE, gComp, gCompD, wipe_nil, wipe_cons, List.map_cons, List.map_nil, List.cons_append, List.nil_append, List.append_nil, true_and, and_true, List.set_cons_zero, List.set_cons_succ, List.length_cons, List.length_nil, List.replicate_succ, List.replicate_zero, Nat.reduceSub, Nat.reduceAdd, Nat.reduceLT, DEnds.fn, bOf_bl, eq_self, reduceIte, Bool.false_eq_true, gNotV_bl, Bool.not_true, Bool.not_false, g2I_int, g2I0_int, g1I_int, gLen_lst, gLen_tup, gInt_int, gMax2_int, gMin2_int, gIsN_non, gIsN_obj, gIsN_dT, gIsN_dK, gIsN_int, xsOf_lst, tsOf_tup, gIx_t0, gIx_t1, gIx_l0, gIx_l1, gIx_l2, iOf_int, gSlS_str, gCatS_str, gRepS_str, gFind_str, gEqA_int, gEqA_str, gEqA_bl, gTup, gLst, Option.isSome_some, Bool.false_xor, Bool.true_xor, gFor]
            refine gIx_nat (k := 0) (d := tabD t0) rfl ?_
            refine ⟨t0, rfl, q0, ?_⟩
            try simp only [ownLst, ownObj, mTake, mOf, fAndV, fOrV, fArgs, fCons, fNil, fVar_0, fVar_s, fUn, fBin, fBool, startE, envOf, slot, gSeq, frzE, gComp, gCompD, wipe_nil, wipe_cons, List.map_cons, List.map_nil, List.cons_append, List.nil_append, List.append_nil, true_and, and_true, List.set_cons_zero, List.set_cons_succ, List.length_cons, List.length_nil, List.replicate_succ, List.replicate_zero, Nat.reduceSub, Nat.reduceAdd, Nat.reduceLT, DEnds.fn, bOf_bl, eq_self, reduceIte, Bool.false_eq_true, gNotV_bl, Bool.not_true, Bool.not_false, g2I_int, g2I0_int, g1I_int, gLen_lst, gLen_tup, gInt_int, gMax2_int, gMin2_int, gIsN_non, gIsN_obj, gIsN_dT, gIsN_dK, gIsN_int, xsOf_lst, tsOf_tup, gIx_t0, gIx_t1, gIx_l0, gIx_l1, gIx_l2, iOf_int, gSlS_str, gCatS_str, gRepS_str, gFind_str, gEqA_int, gEqA_str, gEqA_bl, gTup, gLst, Option.isSome_some, Bool.false_xor, Bool.true_xor, gFor]
            exact hN
          · refine gIx_nat (k := 1) (d := planD C_Plan (pos t1)) rfl ?_
            try simp only [ownLst, ownObj, mTake, mOf, fAndV, fOrV, fArgs, fCons, fNil, fVar_0, fVar_s, fUn, fBin, fBool, startE, envOf, slot, gSeq, frzE, gComp, gCompD, wipe_nil, wipe_cons, List.map_cons, List.map_nil, List.cons_append, List.nil_append, List.append_nil, true_and, and_true, List.set_cons_zero, List.set_cons_succ, List.length_cons, List.length_nil, List.replicate_succ, List.replicate_zero, Nat.reduceSub, Nat.reduceAdd, Nat.reduceLT, DEnds.fn, bOf_bl, eq_self, reduceIte, Bool.false_eq_true, gNotV_bl, Bool.not_true, Bool.not_false, g2I_int, g2I0_int, g1I_int, gLen_lst, gLen_tup, gInt_int, gMax2_int, gMin2_int, gIsN_non, gIsN_obj, gIsN_dT, gIsN_dK, gIsN_int, xsOf_lst, tsOf_tup, gIx_t0, gIx_t1, gIx_l0, gIx_l1, gIx_l2, iOf_int, gSlS_str, gCatS_str, gRepS_str, gFind_str, gEqA_int, gEqA_str, gEqA_bl, gTup, gLst, Option.isSome_some, Bool.false_xor, Bool.true_xor, gFor]
            refine gIx_nat (k := 1) (d := tabD t1) rfl ?_
            refine ⟨t1, rfl, q1, ?_⟩
            try simp only [ownLst, ownObj, mTake, mOf, fAndV, fOrV, fArgs, fCons, fNil, fVar_0, fVar_s, fUn, fBin, fBool, startE, envOf, slot, gSeq, frzE, gComp, gCompD, wipe_nil, wipe_cons, List.map_cons, List.map_nil, List.cons_append, List.nil_append, List.append_nil, true_and, and_true, List.set_cons_zero, List.set_cons_succ, List.length_cons, List.length_nil, List.replicate_succ, List.replicate_zero, Nat.reduceSub, Nat.reduceAdd, Nat.reduceLT, DEnds.fn, bOf_bl, eq_self, reduceIte, Bool.false_eq_true, gNotV_bl, Bool.not_true, Bool.not_false, g2I_int, g2I0_int, g1I_int, gLen_lst, gLen_tup, gInt_int, gMax2_int, gMin2_int, gIsN_non, gIsN_obj, gIsN_dT, gIsN_dK, gIsN_int, xsOf_lst, tsOf_tup, gIx_t0, gIx_t1, gIx_l0, gIx_l1, gIx_l2, iOf_int, gSlS_str, gCatS_str, gRepS_str, gFind_str, gEqA_int, gEqA_str, gEqA_bl, gTup, gLst, Option.isSome_some, Bool.false_xor, Bool.true_xor, gFor]
            exact hN
          · refine gIx_nat (k := 2) (d := planD C_Plan (pos t2)) rfl ?_
            try simp only [ownLst, ownObj, mTake, mOf, fAndV, fOrV, fArgs, fCons, fNil, fVar_0, fVar_s, fUn, fBin, fBool, startE, envOf, slot, gSeq, frzE, gComp, gCompD, wipe_nil, wipe_cons, List.map_cons, List.map_nil, List.cons_append, List.nil_append, List.append_nil, true_and, and_true, List.set_cons_zero, List.set_cons_succ, List.length_cons, List.length_nil, List.replicate_succ, List.replicate_zero, Nat.reduceSub, Nat.reduceAdd, Nat.reduceLT, DEnds.fn, bOf_bl, eq_self, reduceIte, Bool.false_eq_true, gNotV_bl, Bool.not_true, Bool.not_false, g2I_int, g2I0_int, g1I_int, gLen_lst, gLen_tup, gInt_int, gMax2_int, gMin2_int, gIsN_non, gIsN_obj, gIsN_dT, gIsN_dK, gIsN_int, xsOf_lst, tsOf_tup, gIx_t0, gIx_t1, gIx_l0, gIx_l1, gIx_l2, iOf_int, gSlS_str, gCatS_str, gRepS_str, gFind_str, gEqA_int, gEqA_str, gEqA_bl, gTup, gLst, Option.isSome_some, Bool.false_xor, Bool.true_xor, gFor]
            refine gIx_nat (k := 2) (d := tabD t2) rfl ?_
            refine ⟨t2, rfl, q2, ?_⟩
            try simp only [ownLst, ownObj, mTake, mOf, fAndV, fOrV, fArgs, fCons, fNil, fVar_0, fVar_s, fUn, fBin, fBool, startE, envOf, slot, gSeq, frzE, gComp, gCompD, wipe_nil, wipe_cons, List.map_cons, List.map_nil, List.cons_append, List.nil_append, List.append_nil, true_and, and_true, List.set_cons_zero, List.set_cons_succ, List.length_cons, List.length_nil, List.replicate_succ, List.replicate_zero, Nat.reduceSub, Nat.reduceAdd, Nat.reduceLT, DEnds.fn, bOf_bl, eq_self, reduceIte, Bool.false_eq_true, gNotV_bl, Bool.not_true, Bool.not_false, g2I_int, g2I0_int, g1I_int, gLen_lst, gLen_tup, gInt_int, gMax2_int, gMin2_int, gIsN_non, gIsN_obj, gIsN_dT, gIsN_dK, gIsN_int, xsOf_lst, tsOf_tup, gIx_t0, gIx_t1, gIx_l0, gIx_l1, gIx_l2, iOf_int, gSlS_str, gCatS_str, gRepS_str, gFind_str, gEqA_int, gEqA_str, gEqA_bl, gTup, gLst, Option.isSome_some, Bool.false_xor, Bool.true_xor, gFor]
            exact hN
        · have e : (List.range 3).filterMap (fun _ => (none : Option D)) = [] := rfl
          rw [e]
          try simp only [ownLst, ownObj, mTake, mOf, fAndV, fOrV, fArgs, fCons, fNil, fVar_0, fVar_s, fUn, fBin, fBool, startE, envOf, slot, gSeq, frzE, gComp, gCompD, wipe_nil, wipe_cons, List.map_cons, List.map_nil, List.cons_append, List.nil_append, List.append_nil, true_and, and_true, List.set_cons_zero, List.set_cons_succ, List.length_cons, List.length_nil, List.replicate_succ, List.replicate_zero, Nat.reduceSub, Nat.reduceAdd, Nat.reduceLT, DEnds.fn, bOf_bl, eq_self, reduceIte, Bool.false_eq_true, gNotV_bl, Bool.not_true, Bool.not_false, g2I_int, g2I0_int, g1I_int, gLen_lst, gLen_tup, gInt_int, gMax2_int, gMin2_int, gIsN_non, gIsN_obj, gIsN_dT, gIsN_dK, gIsN_int, xsOf_lst, tsOf_tup, gIx_t0, gIx_t1, gIx_l0, gIx_l1, gIx_l2, iOf_int, gSlS_str, gCatS_str, gRepS_str, gFind_str, gEqA_int, gEqA_str, gEqA_bl, gTup, gLst, Option.isSome_some, Bool.false_xor, Bool.true_xor, gFor]
          have er : rows (pos []) = [] := by simp [rows, sk, pos]
          refine ⟨⟨rfl, rfl⟩, pos [], rfl, qe.pos, ?_⟩
          rw [er]
          refine ⟨by decide, [], [], rfl, fun r h => (by cases h), fun r h => (by cases h), by decide, ?_⟩
          rw [decide_eq_true rfl]
          exact rfl
      · rw [decide_eq_false hpr]
        try simp only [ownLst, ownObj, mTake, mOf, fAndV, fOrV, fArgs, fCons, fNil, fVar_0, fVar_s, fUn, fBin, fBool, startE, envOf, slot, gSeq, frzE, gComp, gCompD, wipe_nil, wipe_cons, List.map_cons, List.map_nil, List.cons_append, List.nil_append, List.append_nil, true_and, and_true, List.set_cons_zero, List.set_cons_succ, List.length_cons, List.length_nil, List.replicate_succ, List.replicate_zero, Nat.reduceSub, Nat.reduceAdd, Nat.reduceLT, DEnds.fn, bOf_bl, eq_self, reduceIte, Bool.false_eq_true, gNotV_bl, Bool.not_true, Bool.not_false, g2I_int, g2I0_int, g1I_int, gLen_lst, gLen_tup, gInt_int, gMax2_int, gMin2_int, gIsN_non, gIsN_obj, gIsN_dT, gIsN_dK, gIsN_int, xsOf_lst, tsOf_tup, gIx_t0, gIx_t1, gIx_l0, gIx_l1, gIx_l2, iOf_int, gSlS_str, gCatS_str, gRepS_str, gFind_str, gEqA_int, gEqA_str, gEqA_bl, gTup, gLst, Option.isSome_some, Bool.false_xor, Bool.true_xor, gFor]
        refine ⟨[], rfl, .inl ⟨rfl, rfl⟩, qe.ok, rfl, ?_⟩
        refine ⟨pos t0, pos t2, none, kd, pr, rfl, q0.pos, hp0, hp1, ?_⟩
        refine ⟨t0, [], pr, t2, rfl, q0.ok, by omega, by omega, ?_⟩
        refine ⟨_, _, rfl, ?_⟩
        rw [decide_eq_true (by rw [ite_self, if_neg hpr]; exact cost_due q0 q2 (.inl ⟨rfl, rfl⟩))]
        try simp only [ownLst, ownObj, mTake, mOf, fAndV, fOrV, fArgs, fCons, fNil, fVar_0, fVar_s, fUn, fBin, fBool, startE, envOf, slot, gSeq, frzE, gComp, gCompD, wipe_nil, wipe_cons, List.map_cons, List.map_nil, List.cons_append, List.nil_append, List.append_nil, true_and, and_true, List.set_cons_zero, List.set_cons_succ, List.length_cons, List.length_nil, List.replicate_succ, List.replicate_zero, Nat.reduceSub, Nat.reduceAdd, Nat.reduceLT, DEnds.fn, bOf_bl, eq_self, reduceIte, Bool.false_eq_true, gNotV_bl, Bool.not_true, Bool.not_false, g2I_int, g2I0_int, g1I_int, gLen_lst, gLen_tup, gInt_int, gMax2_int, gMin2_int, gIsN_non, gIsN_obj, gIsN_dT, gIsN_dK, gIsN_int, xsOf_lst, tsOf_tup, gIx_t0, gIx_t1, gIx_l0, gIx_l1, gIx_l2, iOf_int, gSlS_str, gCatS_str, gRepS_str, gFind_str, gEqA_int, gEqA_str, gEqA_bl, gTup, gLst, Option.isSome_some, Bool.false_xor, Bool.true_xor, gFor]
        refine ⟨pos t0, pos [], none, kd, pr, rfl, q0.pos, hp0, hp1, ?_⟩
        refine ⟨t0, [], pr, [], rfl, q0.ok, by omega, by omega, ?_⟩
        refine ⟨_, _, rfl, ?_⟩
        rw [decide_eq_true (by rw [ite_self, if_neg hpr]; exact cost_due q0 qe (.inl ⟨rfl, rfl⟩))]
        try simp only [ownLst, ownObj, mTake, mOf, fAndV, fOrV, fArgs, fCons, fNil, fVar_0, fVar_s, fUn, fBin, fBool, startE, envOf, slot, gSeq, frzE, gComp, gCompD, wipe_nil, wipe_cons, List.map_cons, List.map_nil, List.cons_append, List.nil_append, List.append_nil, true_and, and_true, List.set_cons_zero, List.set_cons_succ, List.length_cons, List.length_nil, List.replicate_succ, List.replicate_zero, Nat.reduceSub, Nat.reduceAdd, Nat.reduceLT, DEnds.fn, bOf_bl, eq_self, reduceIte, Bool.false_eq_true, gNotV_bl, Bool.not_true, Bool.not_false, g2I_int, g2I0_int, g1I_int, gLen_lst, gLen_tup, gInt_int, gMax2_int, gMin2_int, gIsN_non, gIsN_obj, gIsN_dT, gIsN_dK, gIsN_int, xsOf_lst, tsOf_tup, gIx_t0, gIx_t1, gIx_l0, gIx_l1, gIx_l2, iOf_int, gSlS_str, gCatS_str, gRepS_str, gFind_str, gEqA_int, gEqA_str, gEqA_bl, gTup, gLst, Option.isSome_some, Bool.false_xor, Bool.true_xor, gFor]
        refine ⟨pos [], pos t2, none, 1 + pr, rfl, qe.pos, by omega, by omega, ?_⟩
        refine ⟨_, _, rfl, ?_⟩
        rw [decide_eq_true (show costP (pos []) (pos t2) none (1 + pr) = 0 from (cost_due qe q2 (.inl ⟨rfl, rfl⟩)).trans rfl)]
        try simp only [ownLst, ownObj, mTake, mOf, fAndV, fOrV, fArgs, fCons, fNil, fVar_0, fVar_s, fUn, fBin, fBool, startE, envOf, slot, gSeq, frzE, gComp, gCompD, wipe_nil, wipe_cons, List.map_cons, List.map_nil, List.cons_append, List.nil_append, List.append_nil, true_and, and_true, List.set_cons_zero, List.set_cons_succ, List.length_cons, List.length_nil, List.replicate_succ, List.replicate_zero, Nat.reduceSub, Nat.reduceAdd, Nat.reduceLT, DEnds.fn, bOf_bl, eq_self, reduceIte, Bool.false_eq_true, gNotV_bl, Bool.not_true, Bool.not_false, g2I_int, g2I0_int, g1I_int, gLen_lst, gLen_tup, gInt_int, gMax2_int, gMin2_int, gIsN_non, gIsN_obj, gIsN_dT, gIsN_dK, gIsN_int, xsOf_lst, tsOf_tup, gIx_t0, gIx_t1, gIx_l0, gIx_l1, gIx_l2, iOf_int, gSlS_str, gCatS_str, gRepS_str, gFind_str, gEqA_int, gEqA_str, gEqA_bl, gTup, gLst, Option.isSome_some, Bool.false_xor, Bool.true_xor, gFor]
        refine ⟨pos t2, pos t0, none, 5, rfl, q2.pos, by decide, by decide, ?_⟩
        refine ⟨t2, [], 5, t0, rfl, q2.ok, by decide, by decide, ?_⟩
        refine ⟨_, _, rfl, ?_⟩
        rw [decide_eq_true (cost_due q2 q0 (.inl ⟨rfl, rfl⟩))]
        try simp only [ownLst, ownObj, mTake, mOf, fAndV, fOrV, fArgs, fCons, fNil, fVar_0, fVar_s, fUn, fBin, fBool, startE, envOf, slot, gSeq, frzE, gComp, gCompD, wipe_nil, wipe_cons, List.map_cons, List.map_nil, List.cons_append, List.nil_append, List.append_nil, true_and, and_true, List.set_cons_zero, List.set_cons_succ, List.length_cons, List.length_nil, List.replicate_succ, List.replicate_zero, Nat.reduceSub, Nat.reduceAdd, Nat.reduceLT, DEnds.fn, bOf_bl, eq_self, reduceIte, Bool.false_eq_true, gNotV_bl, Bool.not_true, Bool.not_false, g2I_int, g2I0_int, g1I_int, gLen_lst, gLen_tup, gInt_int, gMax2_int, gMin2_int, gIsN_non, gIsN_obj, gIsN_dT, gIsN_dK, gIsN_int, xsOf_lst, tsOf_tup, gIx_t0, gIx_t1, gIx_l0, gIx_l1, gIx_l2, iOf_int, gSlS_str, gCatS_str, gRepS_str, gFind_str, gEqA_int, gEqA_str, gEqA_bl, gTup, gLst, Option.isSome_some, Bool.false_xor, Bool.true_xor, gFor]
        refine ⟨t0, t2, rfl, q0.ok, ?_⟩
        refine ⟨pos t0, pos t2, rfl, q0.pos, ?_⟩
        try simp only [ownLst, ownObj, mTake, mOf, fAndV, fOrV, fArgs, fCons, fNil, fVar_0, fVar_s, fUn, fBin, fBool, startE, envOf, slot, gSeq, frzE, gComp, gCompD, wipe_nil, wipe_cons, List.map_cons, List.map_nil, List.cons_append, List.nil_append, List.append_nil, true_and, and_true, List.set_cons_zero, List.set_cons_succ, List.length_cons, List.length_nil, List.replicate_succ, List.replicate_zero, Nat.reduceSub, Nat.reduceAdd, Nat.reduceLT, DEnds.fn, bOf_bl, eq_self, reduceIte, Bool.false_eq_true, gNotV_bl, Bool.not_true, Bool.not_false, g2I_int, g2I0_int, g1I_int, gLen_lst, gLen_tup, gInt_int, gMax2_int, gMin2_int, gIsN_non, gIsN_obj, gIsN_dT, gIsN_dK, gIsN_int, xsOf_lst, tsOf_tup, gIx_t0, gIx_t1, gIx_l0, gIx_l1, gIx_l2, iOf_int, gSlS_str, gCatS_str, gRepS_str, gFind_str, gEqA_int, gEqA_str, gEqA_bl, gTup, gLst, Option.isSome_some, Bool.false_xor, Bool.true_xor, gFor]
        rw [back_due q0 q2]
        refine ⟨_, _, rfl, dueB_ok q0, dueB_ok q0, dueB_len q0, rfl, ?_⟩
        rw [decide_eq_true rfl]
        try simp only [ownLst, ownObj, mTake, mOf, fAndV, fOrV, fArgs, fCons, fNil, fVar_0, fVar_s, fUn, fBin, fBool, startE, envOf, slot, gSeq, frzE, gComp, gCompD, wipe_nil, wipe_cons, List.map_cons, List.map_nil, List.cons_append, List.nil_append, List.append_nil, true_and, and_true, List.set_cons_zero, List.set_cons_succ, List.length_cons, List.length_nil, List.replicate_succ, List.replicate_zero, Nat.reduceSub, Nat.reduceAdd, Nat.reduceLT, DEnds.fn, bOf_bl, eq_self, reduceIte, Bool.false_eq_true, gNotV_bl, Bool.not_true, Bool.not_false, g2I_int, g2I0_int, g1I_int, gLen_lst, gLen_tup, gInt_int, gMax2_int, gMin2_int, gIsN_non, gIsN_obj, gIsN_dT, gIsN_dK, gIsN_int, xsOf_lst, tsOf_tup, gIx_t0, gIx_t1, gIx_l0, gIx_l1, gIx_l2, iOf_int, gSlS_str, gCatS_str, gRepS_str, gFind_str, gEqA_int, gEqA_str, gEqA_bl, gTup, gLst, Option.isSome_some, Bool.false_xor, Bool.true_xor, gFor]
        refine ⟨by decide, by decide, by rw [List.length_map, sz]; have := dueB_len (n := t2) q0; omega, gIx_last ⟨0, ix_first, ?_⟩⟩
        refine ⟨pos t2, pos t0, rfl, q2.pos, ?_⟩
        refine ⟨t2, t0, rfl, q2.ok, ?_⟩
        rw [back_due q2 q0]
        refine ⟨_, _, rfl, dueB_ok q2, dueB_ok q2, dueB_len q2, ?_⟩
        rw [decide_eq_true rfl]
        try simp only [ownLst, ownObj, mTake, mOf, fAndV, fOrV, fArgs, fCons, fNil, fVar_0, fVar_s, fUn, fBin, fBool, startE, envOf, slot, gSeq, frzE, gComp, gCompD, wipe_nil, wipe_cons, List.map_cons, List.map_nil, List.cons_append, List.nil_append, List.append_nil, true_and, and_true, List.set_cons_zero, List.set_cons_succ, List.length_cons, List.length_nil, List.replicate_succ, List.replicate_zero, Nat.reduceSub, Nat.reduceAdd, Nat.reduceLT, DEnds.fn, bOf_bl, eq_self, reduceIte, Bool.false_eq_true, gNotV_bl, Bool.not_true, Bool.not_false, g2I_int, g2I0_int, g1I_int, gLen_lst, gLen_tup, gInt_int, gMax2_int, gMin2_int, gIsN_non, gIsN_obj, gIsN_dT, gIsN_dK, gIsN_int, xsOf_lst, tsOf_tup, gIx_t0, gIx_t1, gIx_l0, gIx_l1, gIx_l2, iOf_int, gSlS_str, gCatS_str, gRepS_str, gFind_str, gEqA_int, gEqA_str, gEqA_bl, gTup, gLst, Option.isSome_some, Bool.false_xor, Bool.true_xor, gFor]
        refine ⟨pos [], pos t0, rfl, qe.pos, ?_⟩
        rw [back_due qe q0, dueB_nil]
        refine ⟨by decide, [], [], rfl, fun r h => (by cases h), fun r h => (by cases h), by decide, ?_⟩
        rw [decide_eq_true rfl]
        try simp only [ownLst, ownObj, mTake, mOf, fAndV, fOrV, fArgs, fCons, fNil, fVar_0, fVar_s, fUn, fBin, fBool, startE, envOf, slot, gSeq, frzE, gComp, gCompD, wipe_nil, wipe_cons, List.map_cons, List.map_nil, List.cons_append, List.nil_append, List.append_nil, true_and, and_true, List.set_cons_zero, List.set_cons_succ, List.length_cons, List.length_nil, List.replicate_succ, List.replicate_zero, Nat.reduceSub, Nat.reduceAdd, Nat.reduceLT, DEnds.fn, bOf_bl, eq_self, reduceIte, Bool.false_eq_true, gNotV_bl, Bool.not_true, Bool.not_false, g2I_int, g2I0_int, g1I_int, gLen_lst, gLen_tup, gInt_int, gMax2_int, gMin2_int, gIsN_non, gIsN_obj, gIsN_dT, gIsN_dK, gIsN_int, xsOf_lst, tsOf_tup, gIx_t0, gIx_t1, gIx_l0, gIx_l1, gIx_l2, iOf_int, gSlS_str, gCatS_str, gRepS_str, gFind_str, gEqA_int, gEqA_str, gEqA_bl, gTup, gLst, Option.isSome_some, Bool.false_xor, Bool.true_xor, gFor]
        refine ⟨pos t0, pos t2, rfl, q0.pos, ?_⟩
        rw [back_due q0 q2]
        refine ⟨_, _, rfl, dueB_ok q0, dueB_ok q0, dueB_len q0, ?_⟩
        rw [decide_eq_true rfl]
        try simp only [ownLst, ownObj, mTake, mOf, fAndV, fOrV, fArgs, fCons, fNil, fVar_0, fVar_s, fUn, fBin, fBool, startE, envOf, slot, gSeq, frzE, gComp, gCompD, wipe_nil, wipe_cons, List.map_cons, List.map_nil, List.cons_append, List.nil_append, List.append_nil, true_and, and_true, List.set_cons_zero, List.set_cons_succ, List.length_cons, List.length_nil, List.replicate_succ, List.replicate_zero, Nat.reduceSub, Nat.reduceAdd, Nat.reduceLT, DEnds.fn, bOf_bl, eq_self, reduceIte, Bool.false_eq_true, gNotV_bl, Bool.not_true, Bool.not_false, g2I_int, g2I0_int, g1I_int, gLen_lst, gLen_tup, gInt_int, gMax2_int, gMin2_int, gIsN_non, gIsN_obj, gIsN_dT, gIsN_dK, gIsN_int, xsOf_lst, tsOf_tup, gIx_t0, gIx_t1, gIx_l0, gIx_l1, gIx_l2, iOf_int, gSlS_str, gCatS_str, gRepS_str, gFind_str, gEqA_int, gEqA_str, gEqA_bl, gTup, gLst, Option.isSome_some, Bool.false_xor, Bool.true_xor, gFor]
        refine ⟨pos t0, pos [], rfl, q0.pos, ?_⟩
        refine ⟨t0, [], rfl, q0.ok, ?_⟩
        rw [back_due q0 qe]
        refine ⟨_, _, rfl, dueB_ok q0, dueB_ok q0, dueB_len q0, ?_⟩
        rw [decide_eq_true rfl]
        try simp only [ownLst, ownObj, mTake, mOf, fAndV, fOrV, fArgs, fCons, fNil, fVar_0, fVar_s, fUn, fBin, fBool, startE, envOf, slot, gSeq, frzE, gComp, gCompD, wipe_nil, wipe_cons, List.map_cons, List.map_nil, List.cons_append, List.nil_append, List.append_nil, true_and, and_true, List.set_cons_zero, List.set_cons_succ, List.length_cons, List.length_nil, List.replicate_succ, List.replicate_zero, Nat.reduceSub, Nat.reduceAdd, Nat.reduceLT, DEnds.fn, bOf_bl, eq_self, reduceIte, Bool.false_eq_true, gNotV_bl, Bool.not_true, Bool.not_false, g2I_int, g2I0_int, g1I_int, gLen_lst, gLen_tup, gInt_int, gMax2_int, gMin2_int, gIsN_non, gIsN_obj, gIsN_dT, gIsN_dK, gIsN_int, xsOf_lst, tsOf_tup, gIx_t0, gIx_t1, gIx_l0, gIx_l1, gIx_l2, iOf_int, gSlS_str, gCatS_str, gRepS_str, gFind_str, gEqA_int, gEqA_str, gEqA_bl, gTup, gLst, Option.isSome_some, Bool.false_xor, Bool.true_xor, gFor]
        refine ⟨by decide, by decide, ?_⟩
        refine compD_map (xs := List.range 3) (fun j : Nat => D.int (0 + (j : Int))) (fun _ => none) (fun j hj N hN => ?_) (by show 3 ≤ sizeLine; decide) ?_
        · have hj : j < 3 := List.mem_range.mp hj
          have ej : (0 : Int) + (j : Int) = (j : Int) := by omega
          refine ⟨_, rfl, ?_⟩
          rw [ej]
          try simp only [ownLst, ownObj, mTake, mOf, fAndV, fOrV, fArgs, fCons, fNil, fVar_0, fVar_s, fUn, fBin, fBool, startE, envOf, slot, gSeq, frzE, gComp, gCompD, wipe_nil, wipe_cons, List.map_cons, List.map_nil, List.cons_append, List.nil_append, List.append_nil, true_and, and_true, List.set_cons_zero, List.set_cons_succ, List.length_cons, List.length_nil, List.replicate_succ, List.replicate_zero, Nat.reduceSub, Nat.reduceAdd, Nat.reduceLT, DEnds.fn, bOf_bl, eq_self, reduceIte, Bool.false_eq_true, gNotV_bl, Bool.not_true, Bool.not_false, g2I_int, g2I0_int, g1I_int, gLen_lst, gLen_tup, gInt_int, gMax2_int, gMin2_int, gIsN_non, gIsN_obj, gIsN_dT, gIsN_dK, gIsN_int, xsOf_lst, tsOf_tup, gIx_t0, gIx_t1, gIx_l0, gIx_l1, gIx_l2, iOf_int, gSlS_str, gCatS_str, gRepS_str, gFind_str, gEqA_int, gEqA_str, gEqA_bl, gTup, gLst, Option.isSome_some, Bool.false_xor, Bool.true_xor, gFor]
          obtain rfl | rfl | rfl : j = 0 ∨ j = 1 ∨ j = 2 := by omega
          · refine gIx_nat (k := 0) (d := planD C_Plan (pos t0)) rfl ?_
            try simp only [ownLst, ownObj, mTake, mOf, fAndV, fOrV, fArgs, fCons, fNil, fVar_0, fVar_s, fUn, fBin, fBool, startE, envOf, slot, gSeq, frzE, gComp, gCompD, wipe_nil, wipe_cons, List.map_cons, List.map_nil, List.cons_append, List.nil_append, List.append_nil, true_and, and_true, List.set_cons_zero, List.set_cons_succ, List.length_cons, List.length_nil, List.replicate_succ, List.replicate_zero, Nat.reduceSub, Nat.reduceAdd, Nat.reduceLT, DEnds.fn, bOf_bl, eq_self, reduceIte, Bool.false_eq_true, gNotV_bl, Bool.not_true, Bool.not_false, g2I_int, g2I0_int, g1I_int, gLen_lst, gLen_tup, gInt_int, gMax2_int, gMin2_int, gIsN_non, gIsN_obj, gIsN_dT, gIsN_dK, gIsN_int, xsOf_lst, tsOf_tup, gIx_t0, gIx_t1, gIx_l0, gIx_l1, gIx_l2, iOf_int, gSlS_str, gCatS_str, gRepS_str, gFind_str, gEqA_int, gEqA_str, gEqA_bl, gTup, gLst, Option.isSome_some, Bool.false_xor, Bool.true_xor, gFor]
            refine gIx_nat (k := 0) (d := tabD t0) rfl ?_
            refine ⟨t0, rfl, q0, ?_⟩
            try simp only [ownLst, ownObj, mTake, mOf, fAndV, fOrV, fArgs, fCons, fNil, fVar_0, fVar_s, fUn, fBin, fBool, startE, envOf, slot, gSeq, frzE, gComp, gCompD, wipe_nil, wipe_cons, List.map_cons, List.map_nil, List.cons_append, List.nil_append, List.append_nil, true_and, and_true, List.set_cons_zero, List.set_cons_succ, List.length_cons, List.length_nil, List.replicate_succ, List.replicate_zero, Nat.reduceSub, Nat.reduceAdd, Nat.reduceLT, DEnds.fn, bOf_bl, eq_self, reduceIte, Bool.false_eq_true, gNotV_bl, Bool.not_true, Bool.not_false, g2I_int, g2I0_int, g1I_int, gLen_lst, gLen_tup, gInt_int, gMax2_int, gMin2_int, gIsN_non, gIsN_obj, gIsN_dT, gIsN_dK, gIsN_int, xsOf_lst, tsOf_tup, gIx_t0, gIx_t1, gIx_l0, gIx_l1, gIx_l2, iOf_int, gSlS_str, gCatS_str, gRepS_str, gFind_str, gEqA_int, gEqA_str, gEqA_bl, gTup, gLst, Option.isSome_some, Bool.false_xor, Bool.true_xor, gFor]
            exact hN
          · refine gIx_nat (k := 1) (d := planD C_Plan (pos t1)) rfl ?_
            try simp only [ownLst, ownObj, mTake, mOf, fAndV, fOrV, fArgs, fCons, fNil, fVar_0, fVar_s, fUn, fBin, fBool, startE, envOf, slot, gSeq, frzE, gComp, gCompD, wipe_nil, wipe_cons, List.map_cons, List.map_nil, List.cons_append, List.nil_append, List.append_nil, true_and, and_true, List.set_cons_zero, List.set_cons_succ, List.length_cons, List.length_nil, List.replicate_succ, List.replicate_zero, Nat.reduceSub, Nat.reduceAdd, Nat.reduceLT, DEnds.fn, bOf_bl, eq_self, reduceIte, Bool.false_eq_true, gNotV_bl, Bool.not_true, Bool.not_false, g2I_int, g2I0_int, g1I_int, gLen_lst, gLen_tup, gInt_int, gMax2_int, gMin2_int, gIsN_non, gIsN_obj, gIsN_dT, gIsN_dK, gIsN_int, xsOf_lst, tsOf_tup, gIx_t0, gIx_t1, gIx_l0, gIx_l1, gIx_l2, iOf_int, gSlS_str, gCatS_str, gRepS_str, gFind_str, gEqA_int, gEqA_str, gEqA_bl, gTup, gLst, Option.isSome_some, Bool.false_xor, Bool.true_xor, gFor]
            refine gIx_nat (k := 1) (d := tabD t1) rfl ?_
            refine ⟨t1, rfl, q1, ?_⟩
            try simp only [ownLst, ownObj, mTake, mOf, fAndV, fOrV, fArgs, fCons, fNil, fVar_0, fVar_s, fUn, fBin, fBool, startE, envOf, slot, gSeq, frzE, gComp, gCompD, wipe_nil, wipe_cons, List.map_cons, List.map_nil, List.cons_append, List.nil_append, List.append_nil, true_and, and_true, List.set_cons_zero, List.set_cons_succ, List.length_cons, List.length_nil, List.replicate_succ, List.replicate_zero, Nat.reduceSub, Nat.reduceAdd, Nat.reduceLT, DEnds.fn, bOf_bl, eq_self, reduceIte, Bool.false_eq_true, gNotV_bl, Bool.not_true, Bool.not_false, g2I_int, g2I0_int, g1I_int, gLen_lst, gLen_tup, gInt_int, gMax2_int, gMin2_int, gIsN_non, gIsN_obj, gIsN_dT, gIsN_dK, gIsN_int, xsOf_lst, tsOf_tup, gIx_t0, gIx_t1, gIx_l0, gIx_l1, gIx_l2, iOf_int, gSlS_str, gCatS_str, gRepS_str, gFind_str, gEqA_int, gEqA_str, gEqA_bl, gTup, gLst, Option.isSome_some, Bool.false_xor, Bool.true_xor, gFor]
            exact hN
          · refine gIx_nat (k := 2) (d := planD C_Plan (pos t2)) rfl ?_
            try simp only [ownLst, ownObj, mTake, mOf, fAndV, fOrV, fArgs, fCons, fNil, fVar_0, fVar_s, fUn, fBin, fBool, startE, envOf, slot, gSeq, frzE, gComp, gCompD, wipe_nil, wipe_cons, List.map_cons, List.map_nil, List.cons_append, List.nil_append, List.append_nil, true_and, and_true, List.set_cons_zero, List.set_cons_succ, List.length_cons, List.length_nil, List.replicate_succ, List.replicate_zero, Nat.reduceSub, Nat.reduceAdd, Nat.reduceLT, DEnds.fn, bOf_bl, eq_self, reduceIte, Bool.false_eq_true, gNotV_bl, Bool.not_true, Bool.not_false, g2I_int, g2I0_int, g1I_int, gLen_lst, gLen_tup, gInt_int, gMax2_int, gMin2_int, gIsN_non, gIsN_obj, gIsN_dT, gIsN_dK, gIsN_int, xsOf_lst, tsOf_tup, gIx_t0, gIx_t1, gIx_l0, gIx_l1, gIx_l2, iOf_int, gSlS_str, gCatS_str, gRepS_str, gFind_str, gEqA_int, gEqA_str, gEqA_bl, gTup, gLst, Option.isSome_some, Bool.false_xor, Bool.true_xor, gFor]
            refine gIx_nat (k := 2) (d := tabD t2) rfl ?_
            refine ⟨t2, rfl, q2, ?_⟩
            try simp only [ownLst, ownObj, mTake, mOf, fAndV, fOrV, fArgs, fCons, fNil, fVar_0, fVar_s, fUn, fBin, fBool, startE, envOf, slot, gSeq, frzE, gComp, gCompD, wipe_nil, wipe_cons, List.map_cons, List.map_nil, List.cons_append, List.nil_append, List.append_nil, true_and, and_true, List.set_cons_zero, List.set_cons_succ, List.length_cons, List.length_nil, List.replicate_succ, List.replicate_zero, Nat.reduceSub, Nat.reduceAdd, Nat.reduceLT, DEnds.fn, bOf_bl, eq_self, reduceIte, Bool.false_eq_true, gNotV_bl, Bool.not_true, Bool.not_false, g2I_int, g2I0_int, g1I_int, gLen_lst, gLen_tup, gInt_int, gMax2_int, gMin2_int, gIsN_non, gIsN_obj, gIsN_dT, gIsN_dK, gIsN_int, xsOf_lst, tsOf_tup, gIx_t0, gIx_t1, gIx_l0, gIx_l1, gIx_l2, iOf_int, gSlS_str, gCatS_str, gRepS_str, gFind_str, gEqA_int, gEqA_str, gEqA_bl, gTup, gLst, Option.isSome_some, Bool.false_xor, Bool.true_xor, gFor]
            exact hN
        · have e : (List.range 3).filterMap (fun _ => (none : Option D)) = [] := rfl
          rw [e]
          try simp only [ownLst, ownObj, mTake, mOf, fAndV, fOrV, fArgs, fCons, fNil, fVar_0, fVar_s, fUn, fBin, fBool, startE, envOf, slot, gSeq, frzE, gComp, gCompD, wipe_nil, wipe_cons, List.map_cons, List.map_nil, List.cons_append, List.nil_append, List.append_nil, true_and, and_true, List.set_cons_zero, List.set_cons_succ, List.length_cons, List.length_nil, List.replicate_succ, List.replicate_zero, Nat.reduceSub, Nat.reduceAdd, Nat.reduceLT, DEnds.fn, bOf_bl, eq_self, reduceIte, Bool.false_eq_true, gNotV_bl, Bool.not_true, Bool.not_false, g2I_int, g2I0_int, g1I_int, gLen_lst, gLen_tup, gInt_int, gMax2_int, gMin2_int, gIsN_non, gIsN_obj, gIsN_dT, gIsN_dK, gIsN_int, xsOf_lst, tsOf_tup, gIx_t0, gIx_t1, gIx_l0, gIx_l1, gIx_l2, iOf_int, gSlS_str, gCatS_str, gRepS_str, gFind_str, gEqA_int, gEqA_str, gEqA_bl, gTup, gLst, Option.isSome_some, Bool.false_xor, Bool.true_xor, gFor]
          have er : rows (pos []) = [] := by simp [rows, sk, pos]
          refine ⟨⟨rfl, rfl⟩, pos [], rfl, qe.pos, ?_⟩
          rw [er]
          refine ⟨by decide, [], [], rfl, fun r h => (by cases h), fun r h => (by cases h), by decide, ?_⟩
          rw [decide_eq_true rfl]
          exact rfl

end
end GK

namespace GK
open PySem PySem.Spec PyProof.Rows L2
theorem all_mk {l : PySem.W.OpenLaw} {w : World} {K : PySem.W.Frag} {h : Heap} {mg : Str → Option Value} {fa f_Plan___init f_Plan_cents_of f_Plan_rows f_cents_before f_change_cost f_taken_back f_law_bag f_law_draw f_law_name f_law_names f_law_chosen f_law_cents f_law_plan f_law_due_cost f_law_due_back f_law_cost f_law_is f_law_same f_law_stays f_law C_Plan t_Plan___init d_change_cost : Addr} (X : K.In h) (G : h.Ns mainGlobals mg) (hfa : mg "law" = some (.ref fa)) {od_Plan___init an_Plan___init od_Plan_cents_of an_Plan_cents_of od_Plan_rows an_Plan_rows od_cents_before an_cents_before od_change_cost an_change_cost od_taken_back an_taken_back od_law_bag an_law_bag od_law_draw an_law_draw od_law_name an_law_name od_law_names an_law_names od_law_chosen an_law_chosen od_law_cents an_law_cents od_law_plan an_law_plan od_law_due_cost an_law_due_cost od_law_due_back an_law_due_back od_law_cost an_law_cost od_law_is an_law_is od_law_same an_law_same od_law_stays an_law_stays od_law an_law tod_Plan___init : Option Addr} {sl_Plan___init sl_Plan_cents_of sl_Plan_rows sl_cents_before sl_change_cost sl_taken_back sl_law_bag sl_law_draw sl_law_name sl_law_names sl_law_chosen sl_law_cents sl_law_plan sl_law_due_cost sl_law_due_back sl_law_cost sl_law_is sl_law_same sl_law_stays sl_law tsl_Plan___init : Array (Option Value)} {oc_Plan___init kV_Plan___init dc_Plan___init pm_Plan___init cd_Plan___init ct_Plan___init oc_Plan_cents_of kV_Plan_cents_of dc_Plan_cents_of pm_Plan_cents_of cd_Plan_cents_of ct_Plan_cents_of oc_Plan_rows kV_Plan_rows dc_Plan_rows pm_Plan_rows cd_Plan_rows ct_Plan_rows oc_cents_before kV_cents_before dc_cents_before pm_cents_before cd_cents_before ct_cents_before oc_change_cost dc_change_cost pm_change_cost cd_change_cost ct_change_cost oc_taken_back kV_taken_back dc_taken_back pm_taken_back cd_taken_back ct_taken_back oc_law_bag kV_law_bag dc_law_bag pm_law_bag cd_law_bag ct_law_bag oc_law_draw kV_law_draw dc_law_draw pm_law_draw cd_law_draw ct_law_draw oc_law_name kV_law_name dc_law_name pm_law_name cd_law_name ct_law_name oc_law_names kV_law_names dc_law_names pm_law_names cd_law_names ct_law_names oc_law_chosen kV_law_chosen dc_law_chosen pm_law_chosen cd_law_chosen ct_law_chosen oc_law_cents kV_law_cents dc_law_cents pm_law_cents cd_law_cents ct_law_cents oc_law_plan kV_law_plan dc_law_plan pm_law_plan cd_law_plan ct_law_plan oc_law_due_cost kV_law_due_cost dc_law_due_cost pm_law_due_cost cd_law_due_cost ct_law_due_cost oc_law_due_back kV_law_due_back dc_law_due_back pm_law_due_back cd_law_due_back ct_law_due_back oc_law_cost kV_law_cost dc_law_cost pm_law_cost cd_law_cost ct_law_cost oc_law_is kV_law_is dc_law_is pm_law_is cd_law_is ct_law_is oc_law_same kV_law_same dc_law_same pm_law_same cd_law_same ct_law_same oc_law_stays kV_law_stays dc_law_stays pm_law_stays cd_law_stays ct_law_stays oc_law kV_law dc_law pm_law cd_law ct_law toc_Plan___init : Value} {tn_Plan___init : Nat} {tk_change_cost : Tok}
    (a_Plan___init : PySem.W.findIn K (.ref C_Plan) "__init__" = some (some (.ref f_Plan___init))) (i_Plan___init : PySem.W.isFn K (.ref f_Plan___init) = true)
    (l_Plan___init : K.lookup f_Plan___init = some ⟨oc_Plan___init, od_Plan___init, .func (PySem.W.fnOf "__init__" "Plan.__init__" (defArgs s_Plan___init) (defBody s_Plan___init) (defScope s_Plan___init) (.ref t_Plan___init) kV_Plan___init dc_Plan___init pm_Plan___init an_Plan___init cd_Plan___init ct_Plan___init), sl_Plan___init⟩) (c_Plan___init_ : PySem.W.codeIn K cd_Plan___init "Plan.__init__" = true) (k_Plan___init : PySem.W.keepIn K (.ref f_Plan___init) = true)
    (t_Plan___init_l : K.lookup t_Plan___init = some ⟨toc_Plan___init, tod_Plan___init, .seq #[.none] tn_Plan___init, tsl_Plan___init⟩)
    (a_Plan_cents_of : PySem.W.findIn K (.ref C_Plan) "cents_of" = some (some (.ref f_Plan_cents_of))) (i_Plan_cents_of : PySem.W.isFn K (.ref f_Plan_cents_of) = true)
    (l_Plan_cents_of : K.lookup f_Plan_cents_of = some ⟨oc_Plan_cents_of, od_Plan_cents_of, .func (PySem.W.fnOf "cents_of" "Plan.cents_of" (defArgs s_Plan_cents_of) (defBody s_Plan_cents_of) (defScope s_Plan_cents_of) .none kV_Plan_cents_of dc_Plan_cents_of pm_Plan_cents_of an_Plan_cents_of cd_Plan_cents_of ct_Plan_cents_of), sl_Plan_cents_of⟩) (c_Plan_cents_of_ : PySem.W.codeIn K cd_Plan_cents_of "Plan.cents_of" = true) (k_Plan_cents_of : PySem.W.keepIn K (.ref f_Plan_cents_of) = true)
    (a_Plan_rows : PySem.W.findIn K (.ref C_Plan) "rows" = some (some (.ref f_Plan_rows))) (i_Plan_rows : PySem.W.isFn K (.ref f_Plan_rows) = true)
    (l_Plan_rows : K.lookup f_Plan_rows = some ⟨oc_Plan_rows, od_Plan_rows, .func (PySem.W.fnOf "rows" "Plan.rows" (defArgs s_Plan_rows) (defBody s_Plan_rows) (defScope s_Plan_rows) .none kV_Plan_rows dc_Plan_rows pm_Plan_rows an_Plan_rows cd_Plan_rows ct_Plan_rows), sl_Plan_rows⟩) (c_Plan_rows_ : PySem.W.codeIn K cd_Plan_rows "Plan.rows" = true) (k_Plan_rows : PySem.W.keepIn K (.ref f_Plan_rows) = true)
    (a_cents_before : PySem.W.nsIn K mainGlobals "cents_before" = some (some (.ref f_cents_before)))
    (l_cents_before : K.lookup f_cents_before = some ⟨oc_cents_before, od_cents_before, .func (PySem.W.fnOf "cents_before" "cents_before" (defArgs s_cents_before) (defBody s_cents_before) (defScope s_cents_before) .none kV_cents_before dc_cents_before pm_cents_before an_cents_before cd_cents_before ct_cents_before), sl_cents_before⟩) (c_cents_before_ : PySem.W.codeIn K cd_cents_before "cents_before" = true) (k_cents_before : PySem.W.keepIn K (.ref f_cents_before) = true)
    (a_change_cost : PySem.W.nsIn K mainGlobals "change_cost" = some (some (.ref f_change_cost)))
    (l_change_cost : K.lookup f_change_cost = some ⟨oc_change_cost, od_change_cost, .func (PySem.W.fnOf "change_cost" "change_cost" (defArgs s_change_cost) (defBody s_change_cost) (defScope s_change_cost) .none (.ref d_change_cost) dc_change_cost pm_change_cost an_change_cost cd_change_cost ct_change_cost), sl_change_cost⟩) (c_change_cost_ : PySem.W.codeIn K cd_change_cost "change_cost" = true) (k_change_cost : PySem.W.keepIn K (.ref f_change_cost) = true)
    (kw_change_cost_0 : PySem.W.nsIn K d_change_cost "sent" = some (some .none)) (kw_change_cost_1 : PySem.W.nsIn K d_change_cost "hard" = some (some (.int 5 tk_change_cost)))
    (a_taken_back : PySem.W.nsIn K mainGlobals "taken_back" = some (some (.ref f_taken_back)))
    (l_taken_back : K.lookup f_taken_back = some ⟨oc_taken_back, od_taken_back, .func (PySem.W.fnOf "taken_back" "taken_back" (defArgs s_taken_back) (defBody s_taken_back) (defScope s_taken_back) .none kV_taken_back dc_taken_back pm_taken_back an_taken_back cd_taken_back ct_taken_back), sl_taken_back⟩) (c_taken_back_ : PySem.W.codeIn K cd_taken_back "taken_back" = true) (k_taken_back : PySem.W.keepIn K (.ref f_taken_back) = true)
    (a_law_bag : PySem.W.nsIn K mainGlobals "_law_bag" = some (some (.ref f_law_bag)))
    (l_law_bag : K.lookup f_law_bag = some ⟨oc_law_bag, od_law_bag, .func (PySem.W.fnOf "_law_bag" "_law_bag" (defArgs sBag) (defBody sBag) (defScope sBag) .none kV_law_bag dc_law_bag pm_law_bag an_law_bag cd_law_bag ct_law_bag), sl_law_bag⟩) (c_law_bag_ : PySem.W.codeIn K cd_law_bag "_law_bag" = true) (k_law_bag : PySem.W.keepIn K (.ref f_law_bag) = true)
    (a_law_draw : PySem.W.nsIn K mainGlobals "_law_draw" = some (some (.ref f_law_draw)))
    (l_law_draw : K.lookup f_law_draw = some ⟨oc_law_draw, od_law_draw, .func (PySem.W.fnOf "_law_draw" "_law_draw" (defArgs sDraw) (defBody sDraw) (defScope sDraw) .none kV_law_draw dc_law_draw pm_law_draw an_law_draw cd_law_draw ct_law_draw), sl_law_draw⟩) (c_law_draw_ : PySem.W.codeIn K cd_law_draw "_law_draw" = true) (k_law_draw : PySem.W.keepIn K (.ref f_law_draw) = true)
    (a_law_name : PySem.W.nsIn K mainGlobals "_law_name" = some (some (.ref f_law_name)))
    (l_law_name : K.lookup f_law_name = some ⟨oc_law_name, od_law_name, .func (PySem.W.fnOf "_law_name" "_law_name" (defArgs s_law_name) (defBody s_law_name) (defScope s_law_name) .none kV_law_name dc_law_name pm_law_name an_law_name cd_law_name ct_law_name), sl_law_name⟩) (c_law_name_ : PySem.W.codeIn K cd_law_name "_law_name" = true) (k_law_name : PySem.W.keepIn K (.ref f_law_name) = true)
    (a_law_names : PySem.W.nsIn K mainGlobals "_law_names" = some (some (.ref f_law_names)))
    (l_law_names : K.lookup f_law_names = some ⟨oc_law_names, od_law_names, .func (PySem.W.fnOf "_law_names" "_law_names" (defArgs s_law_names) (defBody s_law_names) (defScope s_law_names) .none kV_law_names dc_law_names pm_law_names an_law_names cd_law_names ct_law_names), sl_law_names⟩) (c_law_names_ : PySem.W.codeIn K cd_law_names "_law_names" = true) (k_law_names : PySem.W.keepIn K (.ref f_law_names) = true)
    (a_law_chosen : PySem.W.nsIn K mainGlobals "_law_chosen" = some (some (.ref f_law_chosen)))
    (l_law_chosen : K.lookup f_law_chosen = some ⟨oc_law_chosen, od_law_chosen, .func (PySem.W.fnOf "_law_chosen" "_law_chosen" (defArgs s_law_chosen) (defBody s_law_chosen) (defScope s_law_chosen) .none kV_law_chosen dc_law_chosen pm_law_chosen an_law_chosen cd_law_chosen ct_law_chosen), sl_law_chosen⟩) (c_law_chosen_ : PySem.W.codeIn K cd_law_chosen "_law_chosen" = true) (k_law_chosen : PySem.W.keepIn K (.ref f_law_chosen) = true)
    (a_law_cents : PySem.W.nsIn K mainGlobals "_law_cents" = some (some (.ref f_law_cents)))
    (l_law_cents : K.lookup f_law_cents = some ⟨oc_law_cents, od_law_cents, .func (PySem.W.fnOf "_law_cents" "_law_cents" (defArgs s_law_cents) (defBody s_law_cents) (defScope s_law_cents) .none kV_law_cents dc_law_cents pm_law_cents an_law_cents cd_law_cents ct_law_cents), sl_law_cents⟩) (c_law_cents_ : PySem.W.codeIn K cd_law_cents "_law_cents" = true) (k_law_cents : PySem.W.keepIn K (.ref f_law_cents) = true)
    (a_law_plan : PySem.W.nsIn K mainGlobals "_law_plan" = some (some (.ref f_law_plan)))
    (l_law_plan : K.lookup f_law_plan = some ⟨oc_law_plan, od_law_plan, .func (PySem.W.fnOf "_law_plan" "_law_plan" (defArgs s_law_plan) (defBody s_law_plan) (defScope s_law_plan) .none kV_law_plan dc_law_plan pm_law_plan an_law_plan cd_law_plan ct_law_plan), sl_law_plan⟩) (c_law_plan_ : PySem.W.codeIn K cd_law_plan "_law_plan" = true) (k_law_plan : PySem.W.keepIn K (.ref f_law_plan) = true)
    (a_law_due_cost : PySem.W.nsIn K mainGlobals "_law_due_cost" = some (some (.ref f_law_due_cost)))
    (l_law_due_cost : K.lookup f_law_due_cost = some ⟨oc_law_due_cost, od_law_due_cost, .func (PySem.W.fnOf "_law_due_cost" "_law_due_cost" (defArgs s_law_due_cost) (defBody s_law_due_cost) (defScope s_law_due_cost) .none kV_law_due_cost dc_law_due_cost pm_law_due_cost an_law_due_cost cd_law_due_cost ct_law_due_cost), sl_law_due_cost⟩) (c_law_due_cost_ : PySem.W.codeIn K cd_law_due_cost "_law_due_cost" = true) (k_law_due_cost : PySem.W.keepIn K (.ref f_law_due_cost) = true)
    (a_law_due_back : PySem.W.nsIn K mainGlobals "_law_due_back" = some (some (.ref f_law_due_back)))
    (l_law_due_back : K.lookup f_law_due_back = some ⟨oc_law_due_back, od_law_due_back, .func (PySem.W.fnOf "_law_due_back" "_law_due_back" (defArgs s_law_due_back) (defBody s_law_due_back) (defScope s_law_due_back) .none kV_law_due_back dc_law_due_back pm_law_due_back an_law_due_back cd_law_due_back ct_law_due_back), sl_law_due_back⟩) (c_law_due_back_ : PySem.W.codeIn K cd_law_due_back "_law_due_back" = true) (k_law_due_back : PySem.W.keepIn K (.ref f_law_due_back) = true)
    (a_law_cost : PySem.W.nsIn K mainGlobals "_law_cost" = some (some (.ref f_law_cost)))
    (l_law_cost : K.lookup f_law_cost = some ⟨oc_law_cost, od_law_cost, .func (PySem.W.fnOf "_law_cost" "_law_cost" (defArgs s_law_cost) (defBody s_law_cost) (defScope s_law_cost) .none kV_law_cost dc_law_cost pm_law_cost an_law_cost cd_law_cost ct_law_cost), sl_law_cost⟩) (c_law_cost_ : PySem.W.codeIn K cd_law_cost "_law_cost" = true) (k_law_cost : PySem.W.keepIn K (.ref f_law_cost) = true)
    (a_law_is : PySem.W.nsIn K mainGlobals "_law_is" = some (some (.ref f_law_is)))
    (l_law_is : K.lookup f_law_is = some ⟨oc_law_is, od_law_is, .func (PySem.W.fnOf "_law_is" "_law_is" (defArgs s_law_is) (defBody s_law_is) (defScope s_law_is) .none kV_law_is dc_law_is pm_law_is an_law_is cd_law_is ct_law_is), sl_law_is⟩) (c_law_is_ : PySem.W.codeIn K cd_law_is "_law_is" = true) (k_law_is : PySem.W.keepIn K (.ref f_law_is) = true)
    (a_law_same : PySem.W.nsIn K mainGlobals "_law_same" = some (some (.ref f_law_same)))
    (l_law_same : K.lookup f_law_same = some ⟨oc_law_same, od_law_same, .func (PySem.W.fnOf "_law_same" "_law_same" (defArgs s_law_same) (defBody s_law_same) (defScope s_law_same) .none kV_law_same dc_law_same pm_law_same an_law_same cd_law_same ct_law_same), sl_law_same⟩) (c_law_same_ : PySem.W.codeIn K cd_law_same "_law_same" = true) (k_law_same : PySem.W.keepIn K (.ref f_law_same) = true)
    (a_law_stays : PySem.W.nsIn K mainGlobals "_law_stays" = some (some (.ref f_law_stays)))
    (l_law_stays : K.lookup f_law_stays = some ⟨oc_law_stays, od_law_stays, .func (PySem.W.fnOf "_law_stays" "_law_stays" (defArgs s_law_stays) (defBody s_law_stays) (defScope s_law_stays) .none kV_law_stays dc_law_stays pm_law_stays an_law_stays cd_law_stays ct_law_stays), sl_law_stays⟩) (c_law_stays_ : PySem.W.codeIn K cd_law_stays "_law_stays" = true) (k_law_stays : PySem.W.keepIn K (.ref f_law_stays) = true)
    (a_law : PySem.W.nsIn K mainGlobals "law" = some (some (.ref f_law)))
    (l_law : K.lookup f_law = some ⟨oc_law, od_law, .func (PySem.W.fnOf "law" "law" (defArgs s_law) (defBody s_law) (defScope s_law) .none kV_law dc_law pm_law an_law cd_law ct_law), sl_law⟩) (c_law_ : PySem.W.codeIn K cd_law "law" = true) (k_law : PySem.W.keepIn K (.ref f_law) = true)
    (aC : PySem.W.nsIn K mainGlobals "Plan" = some (some (.ref C_Plan))) (pg : PySem.W.plainGet K C_Plan Str.empty = true) (hd : PySem.W.hasDictIn K C_Plan = true) (po : PySem.W.plainOver K C_Plan = true) (sa : PySem.W.findIn K (.ref C_Plan) "__setattr__" = some (some (.builtin "object.__setattr__"))) (mkC : PySem.W.makesIn K C_Plan = true) (kc : PySem.W.keepIn K (.ref C_Plan) = true) (nT : PySem.W.findIn K (.ref C_Plan) "table" = some none)
    (z_bool_ : PySem.W.nsIn K mainGlobals "bool" = some none)
    (z_int_ : PySem.W.nsIn K mainGlobals "int" = some none)
    (z_isinstance_ : PySem.W.nsIn K mainGlobals "isinstance" = some none)
    (z_len_ : PySem.W.nsIn K mainGlobals "len" = some none)
    (z_list_ : PySem.W.nsIn K mainGlobals "list" = some none)
    (z_max_ : PySem.W.nsIn K mainGlobals "max" = some none)
    (z_min_ : PySem.W.nsIn K mainGlobals "min" = some none)
    (z_range_ : PySem.W.nsIn K mainGlobals "range" = some none)
    (z_sorted_ : PySem.W.nsIn K mainGlobals "sorted" = some none)
    (z_tuple_ : PySem.W.nsIn K mainGlobals "tuple" = some none)
    : ∃ fd : FuncData, (∀ (s : Shared) (v : Value), BindsTo s fd ⟨[v], []⟩ [("script", v)]) ∧ ∀ base : Heap, K.In base → base.Ns mainGlobals mg → FnOk l.prog w K mg base CX0 5 fa fd ["script"] (spLaw K) := by
  have e := hfa.symm.trans (PySem.W.mg_of X G a_law)
  cases e
  have T : Bi mg := ⟨PySem.W.mg_none_of X G z_bool_, PySem.W.mg_none_of X G z_int_, PySem.W.mg_none_of X G z_isinstance_, PySem.W.mg_none_of X G z_len_, PySem.W.mg_none_of X G z_list_, PySem.W.mg_none_of X G z_max_, PySem.W.mg_none_of X G z_min_, PySem.W.mg_none_of X G z_range_, PySem.W.mg_none_of X G z_sorted_, PySem.W.mg_none_of X G z_tuple_⟩
  have KP : KPlan K C_Plan := ⟨⟨pg, hd, po, sa⟩, nT⟩
  have F_Plan_cents_of := fun_mk (st := s_Plan_cents_of) l_Plan_cents_of c_Plan_cents_of_ k_Plan_cents_of
  have b_Plan_cents_of := F_Plan_cents_of.binds (ps := ["self", "way"]) fun _ _ _ _ _ _ us hl => match us, hl with | [_, _], _ => rfl
  have F_Plan_rows := fun_mk (st := s_Plan_rows) l_Plan_rows c_Plan_rows_ k_Plan_rows
  have b_Plan_rows := F_Plan_rows.binds (ps := ["self"]) fun _ _ _ _ _ _ us hl => match us, hl with | [_], _ => rfl
  have F_cents_before := fun_mk (st := s_cents_before) l_cents_before c_cents_before_ k_cents_before
  have b_cents_before := F_cents_before.binds (ps := ["way", "old", "sent"]) fun _ _ _ _ _ _ us hl => match us, hl with | [_, _, _], _ => rfl
  have F_taken_back := fun_mk (st := s_taken_back) l_taken_back c_taken_back_ k_taken_back
  have b_taken_back := F_taken_back.binds (ps := ["old", "new"]) fun _ _ _ _ _ _ us hl => match us, hl with | [_, _], _ => rfl
  have F_law_bag := fun_mk (st := sBag) l_law_bag c_law_bag_ k_law_bag
  have b_law_bag := F_law_bag.binds (ps := ["script"]) fun _ _ _ _ _ _ us hl => match us, hl with | [_], _ => rfl
  have F_law_draw := fun_mk (st := sDraw) l_law_draw c_law_draw_ k_law_draw
  have b_law_draw := F_law_draw.binds (ps := ["bag", "size"]) fun _ _ _ _ _ _ us hl => match us, hl with | [_, _], _ => rfl
  have F_law_name := fun_mk (st := s_law_name) l_law_name c_law_name_ k_law_name
  have b_law_name := F_law_name.binds (ps := ["bag", "taken"]) fun _ _ _ _ _ _ us hl => match us, hl with | [_, _], _ => rfl
  have F_law_names := fun_mk (st := s_law_names) l_law_names c_law_names_ k_law_names
  have b_law_names := F_law_names.binds (ps := ["bag", "count"]) fun _ _ _ _ _ _ us hl => match us, hl with | [_, _], _ => rfl
  have F_law_chosen := fun_mk (st := s_law_chosen) l_law_chosen c_law_chosen_ k_law_chosen
  have b_law_chosen := F_law_chosen.binds (ps := ["bag"]) fun _ _ _ _ _ _ us hl => match us, hl with | [_], _ => rfl
  have F_law_cents := fun_mk (st := s_law_cents) l_law_cents c_law_cents_ k_law_cents
  have b_law_cents := F_law_cents.binds (ps := ["bag", "chosen"]) fun _ _ _ _ _ _ us hl => match us, hl with | [_, _], _ => rfl
  have F_law_plan := fun_mk (st := s_law_plan) l_law_plan c_law_plan_ k_law_plan
  have b_law_plan := F_law_plan.binds (ps := ["table"]) fun _ _ _ _ _ _ us hl => match us, hl with | [_], _ => rfl
  have F_law_due_cost := fun_mk (st := s_law_due_cost) l_law_due_cost c_law_due_cost_ k_law_due_cost
  have b_law_due_cost := F_law_due_cost.binds (ps := ["old", "paid", "price", "new"]) fun _ _ _ _ _ _ us hl => match us, hl with | [_, _, _, _], _ => rfl
  have F_law_due_back := fun_mk (st := s_law_due_back) l_law_due_back c_law_due_back_ k_law_due_back
  have b_law_due_back := F_law_due_back.binds (ps := ["old", "new"]) fun _ _ _ _ _ _ us hl => match us, hl with | [_, _], _ => rfl
  have F_law_cost := fun_mk (st := s_law_cost) l_law_cost c_law_cost_ k_law_cost
  have b_law_cost := F_law_cost.binds (ps := ["old_plan", "new_plan", "paid_plan", "kind", "price"]) fun _ _ _ _ _ _ us hl => match us, hl with | [_, _, _, _, _], _ => rfl
  have F_law_is := fun_mk (st := s_law_is) l_law_is c_law_is_ k_law_is
  have b_law_is := F_law_is.binds (ps := ["told", "due"]) fun _ _ _ _ _ _ us hl => match us, hl with | [_, _], _ => rfl
  have F_law_same := fun_mk (st := s_law_same) l_law_same c_law_same_ k_law_same
  have b_law_same := F_law_same.binds (ps := ["told", "due"]) fun _ _ _ _ _ _ us hl => match us, hl with | [_, _], _ => rfl
  have F_law_stays := fun_mk (st := s_law_stays) l_law_stays c_law_stays_ k_law_stays
  have b_law_stays := F_law_stays.binds (ps := ["plan", "table"]) fun _ _ _ _ _ _ us hl => match us, hl with | [_, _], _ => rfl
  have F_law := fun_mk (st := s_law) l_law c_law_ k_law
  have b_law := F_law.binds (ps := ["script"]) fun _ _ _ _ _ _ us hl => match us, hl with | [_], _ => rfl
  have F_init : FunD K "__init__" "Plan.__init__" (defArgs s_Plan___init) (defBody s_Plan___init) (defScope s_Plan___init) [.non] [] f_Plan___init _ := ⟨⟨_, _, _, _, _, _, _, _, _, _, rfl, l_Plan___init, c_Plan___init_, .inr ⟨by simp, t_Plan___init, _, [.none], _, rfl, t_Plan___init_l, rfl, .cons rfl .nil⟩, .inl rfl⟩, k_Plan___init⟩
  have F_cc : FunD K "change_cost" "change_cost" (defArgs s_change_cost) (defBody s_change_cost) (defScope s_change_cost) [] [("sent", .non), ("hard", .int 5)] f_change_cost _ := ⟨⟨_, _, _, _, _, _, _, _, _, _, rfl, l_change_cost, c_change_cost_, .inl ⟨rfl, rfl⟩, .inr ⟨d_change_cost, rfl, fun q hq => by
    rcases List.mem_cons.mp hq with e | hq
    · rw [e]; exact ⟨_, kw_change_cost_0, rfl⟩
    · rcases List.mem_cons.mp hq with e | hq
      · rw [e]; exact ⟨_, kw_change_cost_1, ⟨_, rfl⟩⟩
      · cases hq⟩⟩, k_change_cost⟩
  obtain ⟨ds1, v1, bp1⟩ := FunD.binds1 (ps := ["self", "cents"]) F_init 1 0 (by simp) rfl fun T kV doc pm an cdv ct us its h1 h2 => match us, h1, its, h2 with | [_], _, [_], _ => ⟨_, rfl, rfl⟩
  obtain ⟨ds2, v2, bp2⟩ := FunD.binds1 (ps := ["self", "cents"]) F_init 2 1 (by simp) rfl fun T kV doc pm an cdv ct us its h1 h2 => match us, h1, its, h2 with | [_, _], _, [_], _ => ⟨_, rfl, rfl⟩
  obtain ⟨ds3, v3, bp3⟩ := FunD.binds0 (ps := ["old", "new", "sent", "hard"]) F_cc 2 (by simp) rfl fun Da doc pm an cdv ct us ks h1 h2 => match us, h1, ks, h2 with | [_, _], _, [_, _], _ => ⟨_, _, _, _, _, _, rfl, rfl, _, _, _, _, _, _, rfl, rfl, rfl⟩
  obtain ⟨mv1, kb1⟩ := kbinds0 (ps := ["old", "new", "sent", "hard"]) F_cc 2 ["hard"] [("sent", .non)] (fun us ms ws => us ++ (ms ++ ws)) (by simp) (by simp) (fun a b c => a.append (b.append c)) fun Da doc pm an cdv ct us mv ws h1 h2 h3 => match us, h1, mv, h2, ws, h3 with | [_, _], _, [_], _, [_], _ => ⟨_, _, _, _, _, _, rfl, rfl, rfl⟩
  obtain ⟨mv2, kb2⟩ := kbinds0 (ps := ["old", "new", "sent", "hard"]) F_cc 2 ["sent"] [("hard", .int 5)] (fun us ms ws => us ++ (ws ++ ms)) (by simp) (by simp) (fun a b c => a.append (c.append b)) fun Da doc pm an cdv ct us mv ws h1 h2 h3 => match us, h1, mv, h2, ws, h3 with | [_, _], _, [_], _, [_], _ => ⟨_, _, _, _, _, _, rfl, rfl, rfl⟩
  obtain ⟨mv3, kb3⟩ := kbinds0 (ps := ["old", "new", "sent", "hard"]) F_cc 2 ["sent", "hard"] [] (fun us ms ws => us ++ ws) (by simp) (by simp) (fun a b c => a.append c) fun Da doc pm an cdv ct us mv ws h1 h2 h3 => match us, h1, mv, h2, ws, h3 with | [_, _], _, [], _, [_, _], _ => rfl
  refine ⟨PySem.W.fnOf "law" "law" (defArgs s_law) (defBody s_law) (defScope s_law) .none kV_law dc_law pm_law an_law cd_law ct_law, fun s v => .of_eq rfl, fun base kin ns => ?_⟩
  have c_Plan_0 : CalK l.prog w K mg base "Plan" C_Plan 1 1 ["self", "cents"] (.own 0) [.non] (w_Plan_init C_Plan) := ⟨⟨_, _, _, _, (ok_Plan___init F_init T KP), ⟨mkC, a_Plan___init, i_Plan___init, kc⟩, PySem.W.mg_of X G aC, bp1, v1, fun _ => .cons .non .nil⟩⟩
  have c_Plan_rows : CalM l.prog w K mg base C_Plan "rows" 1 ["self"] (.own 0) [] (w_Plan_rows C_Plan) := ⟨KP.cl, _, _, [], [], (ok_Plan_rows F_Plan_rows T KP), ⟨a_Plan_rows, i_Plan_rows, k_Plan_rows⟩, b_Plan_rows, .nil, fun _ => .nil⟩
  have c_law_draw : Cal l.prog w K mg base "_law_draw" 1 ["bag", "size"] (.own 0) [] wDraw := ⟨⟨_, _, [], [], (ok_draw F_law_draw T.int_ T.len_), PySem.W.mg_of X G a_law_draw, k_law_draw, b_law_draw, .nil, fun _ => .nil⟩⟩
  have c_law_cents : Cal l.prog w K mg base "_law_cents" 2 ["bag", "chosen"] (.own 0) [] w_law_cents := ⟨⟨_, _, [], [], (ok_law_cents F_law_cents T c_law_draw), PySem.W.mg_of X G a_law_cents, k_law_cents, b_law_cents, .nil, fun _ => .nil⟩⟩
  have c_law_name : Cal l.prog w K mg base "_law_name" 2 ["bag", "taken"] (.own 0) [] w_law_name := ⟨⟨_, _, [], [], (ok_law_name F_law_name T c_law_draw), PySem.W.mg_of X G a_law_name, k_law_name, b_law_name, .nil, fun _ => .nil⟩⟩
  have c_law_names : Cal l.prog w K mg base "_law_names" 3 ["bag", "count"] (.own 0) [] w_law_names := ⟨⟨_, _, [], [], (ok_law_names F_law_names T c_law_name), PySem.W.mg_of X G a_law_names, k_law_names, b_law_names, .nil, fun _ => .nil⟩⟩
  have c_law_chosen : Cal l.prog w K mg base "_law_chosen" 4 ["bag"] (.own 0) [] w_law_chosen := ⟨⟨_, _, [], [], (ok_law_chosen F_law_chosen T c_law_draw c_law_names), PySem.W.mg_of X G a_law_chosen, k_law_chosen, b_law_chosen, .nil, fun _ => .nil⟩⟩
  have c_Plan_cents_of : CalM l.prog w K mg base C_Plan "cents_of" 1 ["self", "way"] (.own 0) [] (w_Plan_cents_of C_Plan) := ⟨KP.cl, _, _, [], [], (ok_Plan_cents_of F_Plan_cents_of T KP), ⟨a_Plan_cents_of, i_Plan_cents_of, k_Plan_cents_of⟩, b_Plan_cents_of, .nil, fun _ => .nil⟩
  have c_cents_before : Cal l.prog w K mg base "cents_before" 2 ["way", "old", "sent"] (.own 0) [] (w_cents_before C_Plan) := ⟨⟨_, _, [], [], (ok_cents_before F_cents_before T c_Plan_cents_of), PySem.W.mg_of X G a_cents_before, k_cents_before, b_cents_before, .nil, fun _ => .nil⟩⟩
  have c_change_cost_2 : Cal l.prog w K mg base "change_cost" 3 ["old", "new", "sent", "hard"] (.own 0) [.non, .int 5] (w_change_cost C_Plan) := ⟨⟨_, _, _, _, (ok_change_cost F_cc T c_Plan_cents_of c_Plan_rows c_cents_before), PySem.W.mg_of X G a_change_cost, k_change_cost, bp3, v3, fun _ => .cons .non (.cons (.int 5) .nil)⟩⟩
  have c_change_cost_k_hard : CalN l.prog w K mg base "change_cost" 3 ["old", "new", "sent", "hard"] (.own 0) 2 ["hard"] (fun xs ys => xs ++ ([.non] ++ ys)) (w_change_cost C_Plan) := ⟨⟨_, _, _, _, (ok_change_cost F_cc T c_Plan_cents_of c_Plan_rows c_cents_before), PySem.W.mg_of X G a_change_cost, k_change_cost, kb1, fun F vs xs zs ys a b => a.append (.append (.cons .non .nil) b)⟩⟩
  have c_change_cost_k_sent : CalN l.prog w K mg base "change_cost" 3 ["old", "new", "sent", "hard"] (.own 0) 2 ["sent"] (fun xs ys => xs ++ (ys ++ [.int 5])) (w_change_cost C_Plan) := ⟨⟨_, _, _, _, (ok_change_cost F_cc T c_Plan_cents_of c_Plan_rows c_cents_before), PySem.W.mg_of X G a_change_cost, k_change_cost, kb2, fun F vs xs zs ys a b => a.append (b.append (.cons (.int 5) .nil))⟩⟩
  have c_change_cost_k_sent_hard : CalN l.prog w K mg base "change_cost" 3 ["old", "new", "sent", "hard"] (.own 0) 2 ["sent", "hard"] (fun xs ys => xs ++ ys) (w_change_cost C_Plan) := ⟨⟨_, _, _, _, (ok_change_cost F_cc T c_Plan_cents_of c_Plan_rows c_cents_before), PySem.W.mg_of X G a_change_cost, k_change_cost, kb3, fun F vs xs zs ys a b => a.append b⟩⟩
  have c_law_cost : Cal l.prog w K mg base "_law_cost" 4 ["old_plan", "new_plan", "paid_plan", "kind", "price"] (.own 0) [] (w_law_cost C_Plan) := ⟨⟨_, _, [], [], (ok_law_cost F_law_cost T c_change_cost_2 c_change_cost_k_hard c_change_cost_k_sent c_change_cost_k_sent_hard), PySem.W.mg_of X G a_law_cost, k_law_cost, b_law_cost, .nil, fun _ => .nil⟩⟩
  have c_law_due_back : Cal l.prog w K mg base "_law_due_back" 1 ["old", "new"] (.own 0) [] w_law_due_back := ⟨⟨_, _, [], [], (ok_law_due_back F_law_due_back T ), PySem.W.mg_of X G a_law_due_back, k_law_due_back, b_law_due_back, .nil, fun _ => .nil⟩⟩
  have c_law_due_cost : Cal l.prog w K mg base "_law_due_cost" 1 ["old", "paid", "price", "new"] (.own 0) [] w_law_due_cost := ⟨⟨_, _, [], [], (ok_law_due_cost F_law_due_cost T ), PySem.W.mg_of X G a_law_due_cost, k_law_due_cost, b_law_due_cost, .nil, fun _ => .nil⟩⟩
  have c_law_is : Cal l.prog w K mg base "_law_is" 1 ["told", "due"] (.own 0) [] w_law_is := ⟨⟨_, _, [], [], (ok_law_is F_law_is T ), PySem.W.mg_of X G a_law_is, k_law_is, b_law_is, .nil, fun _ => .nil⟩⟩
  have c_Plan : CalK l.prog w K mg base "Plan" C_Plan 1 1 ["self", "cents"] (.own 0) [] (w_Plan_init C_Plan) := ⟨⟨_, _, _, _, (ok_Plan___init F_init T KP), ⟨mkC, a_Plan___init, i_Plan___init, kc⟩, PySem.W.mg_of X G aC, bp2, v2, fun _ => .nil⟩⟩
  have c_law_plan : Cal l.prog w K mg base "_law_plan" 3 ["table"] (.own 0) [] (w_law_plan C_Plan) := ⟨⟨_, _, [], [], (ok_law_plan F_law_plan T c_Plan), PySem.W.mg_of X G a_law_plan, k_law_plan, b_law_plan, .nil, fun _ => .nil⟩⟩
  have c_law_same : Cal l.prog w K mg base "_law_same" 1 ["told", "due"] (.own 0) [] w_law_same := ⟨⟨_, _, [], [], (ok_law_same F_law_same T ), PySem.W.mg_of X G a_law_same, k_law_same, b_law_same, .nil, fun _ => .nil⟩⟩
  have c_law_stays : Cal l.prog w K mg base "_law_stays" 2 ["plan", "table"] (.own 0) [] (w_law_stays C_Plan) := ⟨⟨_, _, [], [], (ok_law_stays F_law_stays T c_Plan_rows c_law_same), PySem.W.mg_of X G a_law_stays, k_law_stays, b_law_stays, .nil, fun _ => .nil⟩⟩
  have c_taken_back : Cal l.prog w K mg base "taken_back" 2 ["old", "new"] (.own 1) [] (w_taken_back C_Plan) := ⟨⟨_, _, [], [], (ok_taken_back F_taken_back T c_Plan_cents_of c_Plan_rows), PySem.W.mg_of X G a_taken_back, k_taken_back, b_taken_back, .nil, fun _ => .nil⟩⟩
  exact ok_law F_law T (ok_bag F_law_bag T.int_ T.len_ T.list_) (PySem.W.mg_of X G a_law_bag) k_law_bag b_law_bag c_Plan_0 c_Plan_rows c_law_cents c_law_chosen c_law_cost c_law_draw c_law_due_back c_law_due_cost c_law_is c_law_plan c_law_same c_law_stays c_change_cost_2 c_change_cost_k_hard c_taken_back
end GK

namespace GK
open PySem PySem.Spec PyProof.Rows L2
theorem walk {l : PySem.W.OpenLaw} {q : Program} {loose : List Str} {XP : (Str → Option Value) → Heap → Prop} {YP : World → Heap → Prop} {d : DefRec} {K : Params → PySem.W.Frag} (hn : l.most = some 63) (hdf : d.params.defaults = [])
    (hY : ∀ (w : World) (h : Heap), YP w h → (K w.params).In h)
    (F : ∀ (w : World) (mg : Str → Option Value) (fa : Addr) (h : Heap), (K w.params).In h → h.Ns mainGlobals mg → mg d.name = some (.ref fa) →
      ∃ fd : FuncData, (∀ (s : Shared) (u : Value), BindsTo s fd ⟨[u], []⟩ [("script", u)]) ∧ ∀ base : Heap, (K w.params).In base → base.Ns mainGlobals mg → FnOk l.prog w (K w.params) mg base CX0 5 fa fd ["script"] (spLaw (K w.params))) :
    PySem.W.WalkO q loose XP YP l.row.toRowW d [] (fun f vs => PySem.call f vs) :=
  L2.walk_of (n := 63) (k := 5) (x := "script") (CX := fun _ => CX0) (sp := fun w => spLaw (K w.params)) hn (by decide) hdf ⟨rfl, by decide, by decide⟩ hY F (fun _ H a ns hl hO hS => ⟨a, ns, rfl, hS, hl, hO, fun _ => rfl⟩) fun _ _ _ _ _ z => z
end GK
open PySem PySem.W PyProof.Rows in
set_option maxRecDepth 100000 in
set_option maxHeartbeats 0 in
theorem PySem.Challenge.cw_giftskept_k26_cost_of_a_change_holds : PySem.Challenge.rw_giftskept_k26_cost_of_a_change.Holds := by
  w_on; o_law; k_head; (case hw => w_witness2)
  k_fill
  refine GK.walk (l := PySem.Challenge.rw_giftskept_k26_cost_of_a_change) rfl rfl (fun w h Y => PySem.W.kIn_of Y) ?F
  case F =>
    intro w mg fa h KX G hmg
    refine' GK.all_mk KX G hmg ?a_Plan___init ?i_Plan___init ?l_Plan___init ?c_Plan___init_ ?k_Plan___init ?t_Plan___init_l ?a_Plan_cents_of ?i_Plan_cents_of ?l_Plan_cents_of ?c_Plan_cents_of_ ?k_Plan_cents_of ?a_Plan_rows ?i_Plan_rows ?l_Plan_rows ?c_Plan_rows_ ?k_Plan_rows ?a_cents_before ?l_cents_before ?c_cents_before_ ?k_cents_before ?a_change_cost ?l_change_cost ?c_change_cost_ ?k_change_cost ?kw_change_cost_0 ?kw_change_cost_1 ?a_taken_back ?l_taken_back ?c_taken_back_ ?k_taken_back ?a_law_bag ?l_law_bag ?c_law_bag_ ?k_law_bag ?a_law_draw ?l_law_draw ?c_law_draw_ ?k_law_draw ?a_law_name ?l_law_name ?c_law_name_ ?k_law_name ?a_law_names ?l_law_names ?c_law_names_ ?k_law_names ?a_law_chosen ?l_law_chosen ?c_law_chosen_ ?k_law_chosen ?a_law_cents ?l_law_cents ?c_law_cents_ ?k_law_cents ?a_law_plan ?l_law_plan ?c_law_plan_ ?k_law_plan ?a_law_due_cost ?l_law_due_cost ?c_law_due_cost_ ?k_law_due_cost ?a_law_due_back ?l_law_due_back ?c_law_due_back_ ?k_law_due_back ?a_law_cost ?l_law_cost ?c_law_cost_ ?k_law_cost ?a_law_is ?l_law_is ?c_law_is_ ?k_law_is ?a_law_same ?l_law_same ?c_law_same_ ?k_law_same ?a_law_stays ?l_law_stays ?c_law_stays_ ?k_law_stays ?a_law ?l_law ?c_law_ ?k_law ?aC ?pg ?hd ?po ?sa ?mkC ?kc ?nT ?z_bool_ ?z_int_ ?z_isinstance_ ?z_len_ ?z_list_ ?z_max_ ?z_min_ ?z_range_ ?z_sorted_ ?z_tuple_
    (case aC => k_is)
    (case a_Plan___init => k_is)
    (case i_Plan___init => k_is)
    (case l_Plan___init => k_is)
    (case c_Plan___init_ => k_is)
    (case k_Plan___init => k_is)
    (case t_Plan___init_l => k_is)
    (case a_Plan_cents_of => k_is)
    (case i_Plan_cents_of => k_is)
    (case l_Plan_cents_of => k_is)
    (case c_Plan_cents_of_ => k_is)
    (case k_Plan_cents_of => k_is)
    (case a_Plan_rows => k_is)
    (case i_Plan_rows => k_is)
    (case l_Plan_rows => k_is)
    (case c_Plan_rows_ => k_is)
    (case k_Plan_rows => k_is)
    (case a_cents_before => k_is)
    (case l_cents_before => k_is)
    (case c_cents_before_ => k_is)
    (case k_cents_before => k_is)
    (case a_change_cost => k_is)
    (case l_change_cost => k_is)
    (case c_change_cost_ => k_is)
    (case k_change_cost => k_is)
    (case kw_change_cost_0 => k_is)
    (case kw_change_cost_1 => k_is)
    (case a_taken_back => k_is)
    (case l_taken_back => k_is)
    (case c_taken_back_ => k_is)
    (case k_taken_back => k_is)
    (case a_law_bag => k_is)
    (case l_law_bag => k_is)
    (case c_law_bag_ => k_is)
    (case k_law_bag => k_is)
    (case a_law_draw => k_is)
    (case l_law_draw => k_is)
    (case c_law_draw_ => k_is)
    (case k_law_draw => k_is)
    (case a_law_name => k_is)
    (case l_law_name => k_is)
    (case c_law_name_ => k_is)
    (case k_law_name => k_is)
    (case a_law_names => k_is)
    (case l_law_names => k_is)
    (case c_law_names_ => k_is)
    (case k_law_names => k_is)
    (case a_law_chosen => k_is)
    (case l_law_chosen => k_is)
    (case c_law_chosen_ => k_is)
    (case k_law_chosen => k_is)
    (case a_law_cents => k_is)
    (case l_law_cents => k_is)
    (case c_law_cents_ => k_is)
    (case k_law_cents => k_is)
    (case a_law_plan => k_is)
    (case l_law_plan => k_is)
    (case c_law_plan_ => k_is)
    (case k_law_plan => k_is)
    (case a_law_due_cost => k_is)
    (case l_law_due_cost => k_is)
    (case c_law_due_cost_ => k_is)
    (case k_law_due_cost => k_is)
    (case a_law_due_back => k_is)
    (case l_law_due_back => k_is)
    (case c_law_due_back_ => k_is)
    (case k_law_due_back => k_is)
    (case a_law_cost => k_is)
    (case l_law_cost => k_is)
    (case c_law_cost_ => k_is)
    (case k_law_cost => k_is)
    (case a_law_is => k_is)
    (case l_law_is => k_is)
    (case c_law_is_ => k_is)
    (case k_law_is => k_is)
    (case a_law_same => k_is)
    (case l_law_same => k_is)
    (case c_law_same_ => k_is)
    (case k_law_same => k_is)
    (case a_law_stays => k_is)
    (case l_law_stays => k_is)
    (case c_law_stays_ => k_is)
    (case k_law_stays => k_is)
    (case a_law => k_is)
    (case l_law => k_is)
    (case c_law_ => k_is)
    (case k_law => k_is)
    (case pg => k_is)
    (case hd => k_is)
    (case po => k_is)
    (case sa => k_is)
    (case mkC => k_is)
    (case kc => k_is)
    (case nT => k_is)
    (case z_bool_ => k_is)
    (case z_int_ => k_is)
    (case z_isinstance_ => k_is)
    (case z_len_ => k_is)
    (case z_list_ => k_is)
    (case z_max_ => k_is)
    (case z_min_ => k_is)
    (case z_range_ => k_is)
    (case z_sorted_ => k_is)
    (case z_tuple_ => k_is)
#print axioms PySem.Challenge.cw_giftskept_k26_cost_of_a_change_holds

