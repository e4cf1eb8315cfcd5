import PyProof.Rows.All
import Wide.All
import OpenK.AllK
import Wide.FinOn
import HandS.ForMost
import HandS.Flow
import HandS.IsInst
import HandS.Wide
import HandS.TupAny
import HandS.Deep
import HandS.Conv
import HandS.More
import HandS.Text
import KE.SortData
import HandS.DictComp
import HandS.Defaults
import HandS.Iter
import KE.GoesMore
import HandS.Style
import HandS.Finally
import HandS.TupLen
import PyProof.Rows.StrMeet
import HandS.TupLe
import PySem.Challenge.RW_giftskept_k08_clash_of_an_alternative
set_option Elab.async false
set_option linter.all false
set_option maxRecDepth 100000
set_option maxHeartbeats 4000000
namespace GK
open PySem PySem.Spec PyProof.Rows L2

/-! ### data, read through the heap -/
inductive D where
  | non | bl (b : Bool) | int (i : Int) | str (s : Str) | raw (v : V)
  | tup (xs : List D) | lst (xs : List D) | dK (kvs : List (Key × D)) | dT (kvs : List (List Key × D)) | obj (C : Addr) (fs : List (Str × D))

abbrev Env := List (Option (Nat × D))
/-- a lock is not seen -/
def erO : HO → HO
  | .frz _ u => u
  | u => u
/-- what may be read: all but the bag -/
def rdH (B : List Addr) (H : Hp) : Hp := fun a => if a ∈ B then none else (H a).map erO
def isDct : HO → Prop
  | .dK _ => True
  | .dT _ => True
  | _ => False

/-- nothing -/
def noH : Hp := fun _ => none

mutual
inductive R (K : PySem.W.Frag) (F : Hp) : V → D → Prop where
  | non : R K F .non .non
  | bl (b : Bool) : R K F (.bl b) (.bl b)
  | int (i : Int) : R K F (.int i) (.int i)
  | str (s : Str) : R K F (.str s) (.str s)
  | raw (v : V) : R K F v (.raw v)
  | tup {a : Addr} {vs : List V} {ds : List D} (h : F a = some (.tup vs)) (r : RL K F vs ds) : R K F (.ref a) (.tup ds)
  | lst {a : Addr} {vs : List V} {ds : List D} (h : F a = some (.lst vs)) (r : RL K F vs ds) : R K F (.ref a) (.lst ds)
  | dK {a : Addr} {kvs : List (Key × V)} {es : List (Key × D)} (h : F a = some (.dK kvs)) (hk : kvs.map (·.1) = es.map (·.1)) (r : RL K F (kvs.map (·.2)) (es.map (·.2))) : R K F (.ref a) (.dK es)
  | dT {a : Addr} {kvs : List (List Key × V)} {es : List (List Key × D)} (h : F a = some (.dT kvs)) (hk : kvs.map (·.1) = es.map (·.1)) (r : RL K F (kvs.map (·.2)) (es.map (·.2))) : R K F (.ref a) (.dT es)
  | obj {a C dx : Addr} {fs : List (Str × V)} {es : List (Str × D)} (h : F a = some (.ins C dx fs)) (hk : fs.map (·.1) = es.map (·.1)) (r : RL K F (fs.map (·.2)) (es.map (·.2))) : R K F (.ref a) (.obj C es)
inductive RL (K : PySem.W.Frag) (F : Hp) : List V → List D → Prop where
  | nil : RL K F [] []
  | cons {v : V} {d : D} {vs : List V} {ds : List D} (h : R K F v d) (t : RL K F vs ds) : RL K F (v :: vs) (d :: ds)
end

section
variable {K : PySem.W.Frag} {F F' H H' : Hp} {B : List Addr}
mutual
theorem R.mono {v : V} {d : D} (s : Same F F') : R K F v d → R K F' v d
  | .non => .non
  | .bl b => .bl b
  | .int i => .int i
  | .str x => .str x
  | .raw v => .raw v
  | .tup h r => .tup (s _ _ h) (r.mono s)
  | .lst h r => .lst (s _ _ h) (r.mono s)
  | .dK h hk r => .dK (s _ _ h) hk (r.mono s)
  | .dT h hk r => .dT (s _ _ h) hk (r.mono s)
  | .obj h hk r => .obj (s _ _ h) hk (r.mono s)
theorem RL.mono {vs : List V} {ds : List D} (s : Same F F') : RL K F vs ds → RL K F' vs ds
  | .nil => .nil
  | .cons h t => .cons (h.mono s) (t.mono s)
end
theorem RL.length {vs : List V} {ds : List D} : RL K F vs ds → vs.length = ds.length
  | .nil => rfl
  | .cons _ t => by rw [List.length_cons, List.length_cons, t.length]
theorem RL.append {vs ws : List V} {ds es : List D} : RL K F vs ds → RL K F ws es → RL K F (vs ++ ws) (ds ++ es)
  | .nil, s => s
  | .cons h t, s => .cons h (t.append s)
theorem RL.get {vs : List V} {ds : List D} : RL K F vs ds → ∀ {i : Nat} {d : D}, ds[i]? = some d → ∃ v, vs[i]? = some v ∧ R K F v d
  | .nil, _, _, e => by simp at e
  | .cons h t, 0, d, e => by
    have e' : _ = d := Option.some.inj e
    subst e'
    exact ⟨_, rfl, h⟩
  | .cons h t, i + 1, d, e => t.get (i := i) (d := d) e
theorem RL.getV {vs : List V} {ds : List D} : RL K F vs ds → ∀ {i : Nat} {v : V}, vs[i]? = some v → ∃ d, ds[i]? = some d ∧ R K F v d
  | .nil, _, _, e => by simp at e
  | .cons h t, 0, v, e => by
    have e' : _ = v := Option.some.inj e
    subst e'
    exact ⟨_, rfl, h⟩
  | .cons h t, i + 1, v, e => t.getV (i := i) (v := v) e
theorem RL.drop {vs : List V} {ds : List D} : RL K F vs ds → ∀ n : Nat, RL K F (vs.drop n) (ds.drop n)
  | h, 0 => h
  | .nil, n + 1 => .nil
  | .cons _ t, n + 1 => t.drop n
theorem RL.take {vs : List V} {ds : List D} : RL K F vs ds → ∀ n : Nat, RL K F (vs.take n) (ds.take n)
  | _, 0 => .nil
  | .nil, n + 1 => .nil
  | .cons h t, n + 1 => .cons h (t.take n)
theorem RL.set {vs : List V} {ds : List D} {v : V} {d : D} (q : R K F v d) : RL K F vs ds → ∀ n : Nat, RL K F (vs.set n v) (ds.set n d)
  | .nil, n => .nil
  | .cons h t, 0 => .cons q t
  | .cons h t, n + 1 => .cons h (t.set q n)
theorem RL.reverse {vs : List V} {ds : List D} : RL K F vs ds → RL K F vs.reverse ds.reverse
  | .nil => .nil
  | .cons h t => by
    rw [List.reverse_cons, List.reverse_cons]
    exact t.reverse.append (.cons h .nil)
theorem RL.eraseIdx {vs : List V} {ds : List D} : RL K F vs ds → ∀ n : Nat, RL K F (vs.eraseIdx n) (ds.eraseIdx n)
  | .nil, n => .nil
  | .cons h t, 0 => t
  | .cons h t, n + 1 => .cons h (t.eraseIdx n)
/-- what is read does not name the bag -/
theorem rdH_some {a : Addr} {u : HO} (e : rdH B H a = some u) : a ∉ B ∧ ∃ x, H a = some x ∧ erO x = u := by
  unfold rdH at e
  split at e
  · cases e
  · rename_i hb
    refine ⟨hb, ?_⟩
    cases q : H a with
    | none => rw [q] at e; cases e
    | some x =>
      rw [q] at e
      exact ⟨x, rfl, Option.some.inj e⟩
theorem rdH_of {a : Addr} {x u : HO} (hb : a ∉ B) (e : H a = some x) (n : erO x = u) : rdH B H a = some u := by
  unfold rdH
  rw [if_neg hb, e]
  exact congrArg some n
theorem rd_of_er {a : Addr} {x u : HO} (e : H a = some x) (n : erO x = u) : Rd H a u := by
  cases x <;> first | (left; rw [e]; exact congrArg some n) | skip
  rename_i o w
  right
  have n' : w = u := n
  exact ⟨o, by rw [e, n']⟩
theorem rd_of_rdH {a : Addr} {u : HO} (e : rdH B H a = some u) : Rd H a u := by
  obtain ⟨_, x, h, n⟩ := rdH_some e
  exact rd_of_er h n
theorem sqT_rd {a : Addr} {vs : List V} (h : rdH B H a = some (.tup vs)) : SqT K H a vs := .inl (rd_of_rdH h)
theorem sqL_rd {a : Addr} {vs : List V} (h : rdH B H a = some (.lst vs)) : SqL K H a vs := .inl (rd_of_rdH h)
theorem rdH_same {H H' : Hp} (s : ∀ a o, a ∉ B → H a = some o → H' a = some o) : Same (rdH B H) (rdH B H') := fun a u e => by
  obtain ⟨hb, x, h, n⟩ := rdH_some e
  exact rdH_of hb (s a x hb h) n

/-! ### what is owned -/
/-- the items of a node, each with its own addresses -/
def OwnL (P : V → D → List Addr → Prop) : List V → List D → List Addr → Prop
  | [], [], fp => fp = []
  | v :: vs, d :: ds, fp => ∃ f1 f2, fp = f1 ++ f2 ∧ P v d f1 ∧ OwnL P vs ds f2
  | _, _, _ => False
/-- v stands for d; the first n layers of its lists, dicts and instances are nobody else's, they stand at fp -/
def Own (K : PySem.W.Frag) (F H : Hp) : Nat → V → D → List Addr → Prop
  | 0, v, d, fp => R K F v d ∧ fp = []
  | n + 1, v, .lst ds, fp => ∃ a vs f, v = .ref a ∧ H a = some (.lst vs) ∧ fp = a :: f ∧ OwnL (Own K F H n) vs ds f
  | n + 1, v, .dK es, fp => ∃ a kvs f, v = .ref a ∧ H a = some (.dK kvs) ∧ fp = a :: f ∧ kvs.map (·.1) = es.map (·.1) ∧ OwnL (Own K F H n) (kvs.map (·.2)) (es.map (·.2)) f
  | n + 1, v, .dT es, fp => ∃ a kvs f, v = .ref a ∧ H a = some (.dT kvs) ∧ fp = a :: f ∧ kvs.map (·.1) = es.map (·.1) ∧ OwnL (Own K F H n) (kvs.map (·.2)) (es.map (·.2)) f
  | n + 1, v, .obj C es, fp => ∃ a dx fs f, v = .ref a ∧ H a = some (.ins C dx fs) ∧ fp = a :: f ∧ fs.map (·.1) = es.map (·.1) ∧ OwnL (Own K F H n) (fs.map (·.2)) (es.map (·.2)) f
  | n + 1, v, .tup ds, fp => ∃ a vs, v = .ref a ∧ F a = some (.tup vs) ∧ OwnL (Own K F H n) vs ds fp
  | _ + 1, v, d, fp => R K F v d ∧ fp = []
theorem OwnL.imp {P Q : V → D → List Addr → Prop} : ∀ {vs : List V} {ds : List D} {fp : List Addr}, OwnL P vs ds fp → (∀ v d f, (∀ a ∈ f, a ∈ fp) → P v d f → Q v d f) → OwnL Q vs ds fp
  | [], [], _, h, _ => h
  | v :: vs, d :: ds, fp, ⟨f1, f2, e, h, t⟩, k => ⟨f1, f2, e, k v d f1 (fun a ha => by rw [e]; exact List.mem_append_left _ ha) h,
      OwnL.imp t fun v d f hf => k v d f fun a ha => by rw [e]; exact List.mem_append_right _ (hf a ha)⟩
/-- what is owned stays while its addresses stay -/
theorem Own.mono (sF : Same F F') : ∀ {n : Nat} {v : V} {d : D} {fp : List Addr}, (∀ a ∈ fp, ∀ o, H a = some o → H' a = some o) → Own K F H n v d fp → Own K F' H' n v d fp
  | 0, v, d, fp, _, h => ⟨h.1.mono sF, h.2⟩
  | n + 1, v, .lst ds, fp, s, ⟨a, vs, f, e, h, ef, t⟩ => ⟨a, vs, f, e, s a (by rw [ef]; exact List.mem_cons_self) _ h, ef, t.imp fun v d g hg => Own.mono sF fun b hb => s b (by rw [ef]; exact List.mem_cons_of_mem _ (hg b hb))⟩
  | n + 1, v, .dK es, fp, s, ⟨a, vs, f, e, h, ef, ek, t⟩ => ⟨a, vs, f, e, s a (by rw [ef]; exact List.mem_cons_self) _ h, ef, ek, t.imp fun v d g hg => Own.mono sF fun b hb => s b (by rw [ef]; exact List.mem_cons_of_mem _ (hg b hb))⟩
  | n + 1, v, .dT es, fp, s, ⟨a, vs, f, e, h, ef, ek, t⟩ => ⟨a, vs, f, e, s a (by rw [ef]; exact List.mem_cons_self) _ h, ef, ek, t.imp fun v d g hg => Own.mono sF fun b hb => s b (by rw [ef]; exact List.mem_cons_of_mem _ (hg b hb))⟩
  | n + 1, v, .obj C es, fp, s, ⟨a, dx, vs, f, e, h, ef, ek, t⟩ => ⟨a, dx, vs, f, e, s a (by rw [ef]; exact List.mem_cons_self) _ h, ef, ek, t.imp fun v d g hg => Own.mono sF fun b hb => s b (by rw [ef]; exact List.mem_cons_of_mem _ (hg b hb))⟩
  | n + 1, v, .tup ds, fp, s, ⟨a, vs, e, h, t⟩ => ⟨a, vs, e, sF _ _ h, t.imp fun v d g hg => Own.mono sF fun b hb => s b (hg b hb)⟩
  | n + 1, v, .non, fp, s, h => ⟨h.1.mono sF, h.2⟩
  | n + 1, v, .bl _, fp, s, h => ⟨h.1.mono sF, h.2⟩
  | n + 1, v, .int _, fp, s, h => ⟨h.1.mono sF, h.2⟩
  | n + 1, v, .str _, fp, s, h => ⟨h.1.mono sF, h.2⟩
  | n + 1, v, .raw _, fp, s, h => ⟨h.1.mono sF, h.2⟩
/-- what stands for the data in a heap that has all -/
theorem OwnL.toRL {P : V → D → List Addr → Prop} {G : Hp} : ∀ {vs : List V} {ds : List D} {fp : List Addr}, OwnL P vs ds fp → (∀ v d f, (∀ a ∈ f, a ∈ fp) → P v d f → R K G v d) → RL K G vs ds
  | [], [], _, _, _ => .nil
  | v :: vs, d :: ds, fp, ⟨f1, f2, e, h, t⟩, k => .cons (k v d f1 (fun a ha => by rw [e]; exact List.mem_append_left _ ha) h) (OwnL.toRL t fun v d f hf => k v d f fun a ha => by rw [e]; exact List.mem_append_right _ (hf a ha))
theorem Own.toR {G : Hp} (sF : Same F G) : ∀ {n : Nat} {v : V} {d : D} {fp : List Addr}, (∀ a ∈ fp, ∀ o, H a = some o → erO o = o → G a = some o) → Own K F H n v d fp → R K G v d
  | 0, v, d, fp, _, h => h.1.mono sF
  | n + 1, v, .lst ds, fp, s, ⟨a, vs, f, e, h, ef, t⟩ => by
    subst e
    exact .lst (s a (by rw [ef]; exact List.mem_cons_self) _ h rfl) (t.toRL fun v d g hg => Own.toR sF fun b hb => s b (by rw [ef]; exact List.mem_cons_of_mem _ (hg b hb)))
  | n + 1, v, .dK es, fp, s, ⟨a, vs, f, e, h, ef, ek, t⟩ => by
    subst e
    exact .dK (s a (by rw [ef]; exact List.mem_cons_self) _ h rfl) ek (t.toRL fun v d g hg => Own.toR sF fun b hb => s b (by rw [ef]; exact List.mem_cons_of_mem _ (hg b hb)))
  | n + 1, v, .dT es, fp, s, ⟨a, vs, f, e, h, ef, ek, t⟩ => by
    subst e
    exact .dT (s a (by rw [ef]; exact List.mem_cons_self) _ h rfl) ek (t.toRL fun v d g hg => Own.toR sF fun b hb => s b (by rw [ef]; exact List.mem_cons_of_mem _ (hg b hb)))
  | n + 1, v, .obj C es, fp, s, ⟨a, dx, vs, f, e, h, ef, ek, t⟩ => by
    subst e
    exact .obj (s a (by rw [ef]; exact List.mem_cons_self) _ h rfl) ek (t.toRL fun v d g hg => Own.toR sF fun b hb => s b (by rw [ef]; exact List.mem_cons_of_mem _ (hg b hb)))
  | n + 1, v, .tup ds, fp, s, ⟨a, vs, e, h, t⟩ => by
    subst e
    exact .tup (sF _ _ h) (t.toRL fun v d g hg => Own.toR sF fun b hb => s b (hg b hb))
  | n + 1, v, .non, fp, s, h => h.1.mono sF
  | n + 1, v, .bl _, fp, s, h => h.1.mono sF
  | n + 1, v, .int _, fp, s, h => h.1.mono sF
  | n + 1, v, .str _, fp, s, h => h.1.mono sF
  | n + 1, v, .raw _, fp, s, h => h.1.mono sF
theorem OwnL.there {P : V → D → List Addr → Prop} {p : Addr → Prop} : ∀ {vs : List V} {ds : List D} {fp : List Addr}, OwnL P vs ds fp → (∀ v d f, P v d f → ∀ a ∈ f, p a) → ∀ a ∈ fp, p a
  | [], [], _, h, _, a, ha => by rw [show _ = _ from h] at ha; cases ha
  | v :: vs, d :: ds, fp, ⟨f1, f2, e, h, t⟩, k, a, ha => by
    rw [e] at ha
    rcases List.mem_append.mp ha with z | z
    · exact k v d f1 h a z
    · exact OwnL.there t k a z
/-- what is owned stands in the heap -/
theorem Own.there : ∀ {n : Nat} {v : V} {d : D} {fp : List Addr}, Own K F H n v d fp → ∀ a ∈ fp, ∃ o, H a = some o ∧ Mut (some o)
  | 0, v, d, fp, h, a, ha => by rw [h.2] at ha; cases ha
  | n + 1, v, .lst ds, fp, ⟨a, vs, f, e, h, ef, t⟩, b, hb => by
    rw [ef] at hb
    rcases List.mem_cons.mp hb with z | z
    · exact ⟨HO.lst vs, by rw [z]; exact h, trivial⟩
    · exact t.there (fun v d f q => Own.there q) b z
  | n + 1, v, .dK es, fp, ⟨a, vs, f, e, h, ef, ek, t⟩, b, hb => by
    rw [ef] at hb
    rcases List.mem_cons.mp hb with z | z
    · exact ⟨HO.dK vs, by rw [z]; exact h, trivial⟩
    · exact t.there (fun v d f q => Own.there q) b z
  | n + 1, v, .dT es, fp, ⟨a, vs, f, e, h, ef, ek, t⟩, b, hb => by
    rw [ef] at hb
    rcases List.mem_cons.mp hb with z | z
    · exact ⟨HO.dT vs, by rw [z]; exact h, trivial⟩
    · exact t.there (fun v d f q => Own.there q) b z
  | n + 1, v, .obj C es, fp, ⟨a, dx, vs, f, e, h, ef, ek, t⟩, b, hb => by
    rw [ef] at hb
    rcases List.mem_cons.mp hb with z | z
    · exact ⟨HO.ins C dx vs, by rw [z]; exact h, trivial⟩
    · exact t.there (fun v d f q => Own.there q) b z
  | n + 1, v, .tup ds, fp, ⟨a, vs, e, h, t⟩, b, hb => t.there (fun v d f q => Own.there q) b hb
  | n + 1, v, .non, fp, h, a, ha => by rw [h.2] at ha; cases ha
  | n + 1, v, .bl _, fp, h, a, ha => by rw [h.2] at ha; cases ha
  | n + 1, v, .int _, fp, h, a, ha => by rw [h.2] at ha; cases ha
  | n + 1, v, .str _, fp, h, a, ha => by rw [h.2] at ha; cases ha
  | n + 1, v, .raw _, fp, h, a, ha => by rw [h.2] at ha; cases ha
end

/-! ### data without lists, dicts and instances -/
mutual
def D.flat : D → Bool
  | .tup xs => flatL xs
  | .lst _ => false
  | .dK _ => false
  | .dT _ => false
  | .obj _ _ => false
  | _ => true
def flatL : List D → Bool
  | [] => true
  | d :: ds => d.flat && flatL ds
end
def isTup : HO → Prop
  | .tup _ => True
  | _ => False
mutual
theorem R.flat {K : PySem.W.Frag} {F G : Hp} (s : ∀ a vs, F a = some (.tup vs) → G a = some (.tup vs)) : ∀ {v : V} {d : D}, d.flat = true → R K F v d → R K G v d
  | _, _, _, .non => .non
  | _, _, _, .bl b => .bl b
  | _, _, _, .int i => .int i
  | _, _, _, .str x => .str x
  | _, _, _, .raw v => .raw v
  | _, _, e, .tup h r => .tup (s _ _ h) (RL.flat s (by simpa [D.flat] using e) r)
  | _, _, e, .lst h r => by simp [D.flat] at e
  | _, _, e, .dK h hk r => by simp [D.flat] at e
  | _, _, e, .dT h hk r => by simp [D.flat] at e
  | _, _, e, .obj h hk r => by simp [D.flat] at e
theorem RL.flat {K : PySem.W.Frag} {F G : Hp} (s : ∀ a vs, F a = some (.tup vs) → G a = some (.tup vs)) : ∀ {vs : List V} {ds : List D}, flatL ds = true → RL K F vs ds → RL K G vs ds
  | _, _, _, .nil => .nil
  | _, _, e, .cons h t => by
    rw [flatL, Bool.and_eq_true] at e
    exact .cons (R.flat s e.1 h) (RL.flat s e.2 t)
end
/-- n layers, then flat -/
def flatN : Nat → D → Bool
  | 0, d => d.flat
  | n + 1, .lst ds => ds.all (flatN n)
  | n + 1, .dK es => es.all fun e => flatN n e.2
  | n + 1, .dT es => es.all fun e => flatN n e.2
  | n + 1, .obj _ es => es.all fun e => flatN n e.2
  | n + 1, .tup ds => ds.all (flatN n)
  | _ + 1, _ => true
section
variable {K : PySem.W.Frag} {F F' G H H' : Hp} {B : List Addr}
theorem OwnL.impD {P Q : V → D → List Addr → Prop} : ∀ {vs : List V} {ds : List D} {fp : List Addr}, OwnL P vs ds fp → (∀ v d f, d ∈ ds → P v d f → Q v d f) → OwnL Q vs ds fp
  | [], [], _, h, _ => h
  | v :: vs, d :: ds, fp, ⟨f1, f2, e, h, t⟩, k => ⟨f1, f2, e, k v d f1 List.mem_cons_self h, OwnL.impD t fun v d f hd => k v d f (List.mem_cons_of_mem _ hd)⟩
theorem all_snd {κ : Type} {es : List (κ × D)} {p : D → Bool} (h : (es.all fun e => p e.2) = true) : ∀ d ∈ es.map (·.2), p d = true := fun d hd => by
  obtain ⟨e, he, rfl⟩ := List.mem_map.mp hd
  exact List.all_eq_true.mp h e he
theorem Own.flat (s : ∀ a vs, F a = some (.tup vs) → G a = some (.tup vs)) : ∀ {n : Nat} {v : V} {d : D} {fp : List Addr}, flatN n d = true → Own K F H n v d fp → Own K G H n v d fp
  | 0, v, d, fp, e, h => ⟨h.1.flat s e, h.2⟩
  | n + 1, v, .lst ds, fp, e, ⟨a, vs, f, ev, h, ef, t⟩ => ⟨a, vs, f, ev, h, ef, t.impD fun v d g hd => Own.flat s (List.all_eq_true.mp e d hd)⟩
  | n + 1, v, .dK es, fp, e, ⟨a, vs, f, ev, h, ef, ek, t⟩ => ⟨a, vs, f, ev, h, ef, ek, t.impD fun v d g hd => Own.flat s (all_snd e d hd)⟩
  | n + 1, v, .dT es, fp, e, ⟨a, vs, f, ev, h, ef, ek, t⟩ => ⟨a, vs, f, ev, h, ef, ek, t.impD fun v d g hd => Own.flat s (all_snd e d hd)⟩
  | n + 1, v, .obj C es, fp, e, ⟨a, dx, vs, f, ev, h, ef, ek, t⟩ => ⟨a, dx, vs, f, ev, h, ef, ek, t.impD fun v d g hd => Own.flat s (all_snd e d hd)⟩
  | n + 1, v, .tup ds, fp, e, ⟨a, vs, ev, h, t⟩ => ⟨a, vs, ev, s _ _ h, t.impD fun v d g hd => Own.flat s (List.all_eq_true.mp e d hd)⟩
  | n + 1, v, .non, fp, e, h => ⟨h.1.flat s rfl, h.2⟩
  | n + 1, v, .bl _, fp, e, h => ⟨h.1.flat s rfl, h.2⟩
  | n + 1, v, .int _, fp, e, h => ⟨h.1.flat s rfl, h.2⟩
  | n + 1, v, .str _, fp, e, h => ⟨h.1.flat s rfl, h.2⟩
  | n + 1, v, .raw _, fp, e, h => ⟨h.1.flat s rfl, h.2⟩
end

/-! ### the law's bag: its list, the cells, what is left of them, the script -/
def BagOk (B : List Addr) (H : Hp) : Prop :=
  B = [] ∨ ∃ (b c l : Addr) (ts : List Addr) (cells left : List Int) (turn : Int), B = b :: c :: l :: ts ∧ (∀ t ∈ ts, ∃ o xs, H t = some (.frz o (.lst xs))) ∧ H b = some (.lst [.ref c, .ref l, .int turn]) ∧ H c = some (.lst (cells.map V.int)) ∧ H l = some (.lst (left.map V.int)) ∧
    b ≠ c ∧ b ≠ l ∧ c ≠ l ∧ 0 ≤ turn ∧ 0 < cells.length ∧ cells.length ≤ 63 ∧ left.length = cells.length

structure WF (B : List Addr) (F H : Hp) : Prop where
  sub : Same F (rdH B H)
  lock : ∀ a o u, a ∉ B → H a = some (.frz o u) → isDct u
  bag : BagOk B H
/-- an expression: nothing that stood is changed but the bag; what may be read grows by what is new, by tuples and by A -/
structure Step (B A : List Addr) (F H F' H' : Hp) : Prop where
  same : ∀ a o, a ∉ B → H a = some o → H' a = some o
  fs : Same F F'
  fresh : ∀ a u, F' a = some u → F a = some u ∨ H a = none ∨ isTup u ∨ a ∈ A
  wf : WF B F' H'
def OwnE (K : PySem.W.Frag) (F H : Hp) : L2.St → Env → List Addr → Prop
  | [], [], fp => fp = []
  | _ :: σ, none :: ρ, fp => OwnE K F H σ ρ fp
  | some v :: σ, some (n, d) :: ρ, fp => ∃ f1 f2, fp = f1 ++ f2 ∧ Own K F H n v d f1 ∧ OwnE K F H σ ρ f2
  | _, _, _ => False
/-- the state of a def's body. Z0: what stands and stays; F0: what could be read at the start; Pn: the slots that keep their values -/
structure StOk (K : PySem.W.Frag) (B : List Addr) (Pn : List V) (Z0 F0 F H : Hp) (σ : L2.St) (ρ : Env) (fp : List Addr) : Prop where
  wf : WF B F H
  own : OwnE K F H σ ρ fp
  nd : fp.Nodup
  out : ∀ a ∈ fp, F a = none ∧ a ∉ B ∧ Z0 a = none
  z : Same Z0 H
  zB : ∀ a ∈ B, Z0 a = none
  f : Same F0 F
  fr : ∀ a u, F a = some u → F0 a = some u ∨ Z0 a = none ∨ isTup u
  pn : ∀ (i : Nat) (v : V), Pn[i]? = some v → σ[i]? = some (some v)
inductive Mode where
  | rd | bor (n : Nat) | own (n : Nat)
/-- a value: read alone; owned by somebody else; owned -/
def Val (K : PySem.W.Frag) (m : Mode) (B : List Addr) (F H : Hp) (v : V) (d : D) (fp : List Addr) : Prop :=
  match m with
  | .rd => R K (rdH B H) v d ∧ fp = []
  | .bor n => (∃ f, Own K F H n v d f ∧ ∀ a ∈ f, a ∉ B) ∧ fp = []
  | .own n => Own K F H n v d fp

section
variable {K : PySem.W.Frag} {F F0 Z0 F' G H H' : Hp} {B A fp : List Addr} {Pn : List V} {σ : L2.St} {ρ : Env}
theorem WF.outB (w : WF B F H) {a : Addr} (h : a ∈ B) : F a = none := by
  cases q : F a with
  | none => rfl
  | some u =>
    have := w.sub a u q
    exact absurd h (rdH_some this).1
theorem OwnE.mono (sF : Same F F') : ∀ {σ : L2.St} {ρ : Env} {fp : List Addr}, (∀ a ∈ fp, ∀ o, H a = some o → H' a = some o) → OwnE K F H σ ρ fp → OwnE K F' H' σ ρ fp
  | [], [], _, _, h => h
  | _ :: σ, none :: ρ, fp, s, h => OwnE.mono (σ := σ) (ρ := ρ) sF s h
  | some v :: σ, some (n, d) :: ρ, fp, s, ⟨f1, f2, e, h, t⟩ =>
    ⟨f1, f2, e, h.mono sF fun a ha => s a (by rw [e]; exact List.mem_append_left _ ha), OwnE.mono (σ := σ) (ρ := ρ) sF (fun a ha => s a (by rw [e]; exact List.mem_append_right _ ha)) t⟩
theorem OwnE.there : ∀ {σ : L2.St} {ρ : Env} {fp : List Addr}, OwnE K F H σ ρ fp → ∀ a ∈ fp, ∃ o, H a = some o ∧ Mut (some o)
  | [], [], _, h, a, ha => by rw [show _ = _ from h] at ha; cases ha
  | _ :: σ, none :: ρ, fp, h, a, ha => OwnE.there (σ := σ) (ρ := ρ) h a ha
  | some v :: σ, some (n, d) :: ρ, fp, ⟨f1, f2, e, h, t⟩, a, ha => by
    rw [e] at ha
    rcases List.mem_append.mp ha with z | z
    · exact h.there a z
    · exact OwnE.there (σ := σ) (ρ := ρ) t a z
theorem OwnE.len : ∀ {σ : L2.St} {ρ : Env} {fp : List Addr}, OwnE K F H σ ρ fp → σ.length = ρ.length
  | [], [], _, h => rfl
  | _ :: σ, none :: ρ, fp, h => by rw [List.length_cons, List.length_cons, OwnE.len (σ := σ) (ρ := ρ) h]
  | some v :: σ, some (n, d) :: ρ, fp, ⟨f1, f2, e, h, t⟩ => by rw [List.length_cons, List.length_cons, OwnE.len (σ := σ) (ρ := ρ) t]
theorem Step.refl (w : WF B F H) : Step B A F H F H := ⟨fun _ _ _ h => h, fun _ _ h => h, fun _ _ h => .inl h, w⟩
theorem Step.trans {F1 H1 : Hp} {A1 : List Addr} (s : Step B A F H F1 H1) (t : Step B A1 F1 H1 F' H') (hA : ∀ a ∈ A1, H a = none ∨ a ∈ A) : Step B A F H F' H' :=
  ⟨fun a o hb h => t.same a o hb (s.same a o hb h), fun a u h => t.fs a u (s.fs a u h), fun a u h => by
    rcases t.fresh a u h with q | q | q | q
    · exact s.fresh a u q
    · right; left
      cases e : H a with
      | none => rfl
      | some o =>
        by_cases hb : a ∈ B
        · have := t.wf.outB hb
          rw [this] at h; cases h
        · rw [s.same a o hb e] at q; cases q
    · exact .inr (.inr (.inl q))
    · exact (hA a q).elim (fun z => .inr (.inl z)) fun z => .inr (.inr (.inr z)), t.wf⟩
/-- an owned thing is no bag's, no frozen one's behind a step -/
theorem Step.out (s : Step B A F H F' H') {a : Addr} {o : HO} (h : H a = some o) (m : Mut (some o)) (hB : a ∉ B) (hF : F a = none) (hA : a ∉ A) : F' a = none := by
  cases q : F' a with
  | none => rfl
  | some u =>
    exfalso
    rcases s.fresh a u q with z | z | z | z
    · rw [hF] at z; cases z
    · rw [h] at z; cases z
    · have e := s.wf.sub a u q
      obtain ⟨_, x, hx, ex⟩ := rdH_some e
      rw [s.same a o hB h] at hx
      cases hx
      cases o <;> cases u <;> first | (cases ex; done) | (exact z) | (exact m)
    · exact hA z
theorem StOk.step (S : StOk K B Pn Z0 F0 F H σ ρ fp) (s : Step B A F H F' H') (hA : ∀ a ∈ A, a ∉ fp ∧ Z0 a = none) : StOk K B Pn Z0 F0 F' H' σ ρ fp where
  wf := s.wf
  own := S.own.mono s.fs fun a ha o e => s.same a o (S.out a ha).2.1 e
  nd := S.nd
  out := fun a ha => by
    obtain ⟨o, e, m⟩ := S.own.there a ha
    obtain ⟨h1, h2, h3⟩ := S.out a ha
    exact ⟨s.out e m h2 h1 fun z => (hA a z).1 ha, h2, h3⟩
  z := fun a o e => s.same a o (fun hb => by rw [S.zB a hb] at e; cases e) (S.z a o e)
  zB := S.zB
  f := fun a u e => s.fs a u (S.f a u e)
  fr := fun a u e => by
    rcases s.fresh a u e with q | q | q | q
    · exact S.fr a u q
    · right; left
      cases z : Z0 a with
      | none => rfl
      | some o => rw [S.z a o z] at q; cases q
    · exact .inr (.inr q)
    · exact .inr (.inl (hA a q).2)
  pn := S.pn
/-- forget the base -/
theorem StOk.base (S : StOk K B Pn Z0 F0 F H σ ρ fp) : StOk K B [] noH noH F H σ ρ fp :=
  ⟨S.wf, S.own, S.nd, fun a ha => ⟨(S.out a ha).1, (S.out a ha).2.1, rfl⟩, fun _ _ e => (by cases e), fun _ _ => rfl, fun _ _ e => (by cases e), fun _ _ _ => .inr (.inl rfl), fun i v e => (by simp at e)⟩
theorem Val.step {m : Mode} {v : V} {d : D} (h : Val K m B F H v d fp) (s : Step B A F H F' H') (hB : ∀ a ∈ fp, a ∉ B) : Val K m B F' H' v d fp := by
  cases m with
  | rd => exact ⟨h.1.mono (rdH_same s.same), h.2⟩
  | bor n =>
    obtain ⟨⟨f, h, hf⟩, e⟩ := h
    exact ⟨⟨f, Own.mono s.fs (fun a ha o e => s.same a o (hf a ha) e) h, hf⟩, e⟩
  | own n => exact Own.mono s.fs (fun a ha o e => s.same a o (hB a ha) e) h
/-- what may be read alone -/
theorem Val.rd {m : Mode} {v : V} {d : D} (w : WF B F H) (hB : ∀ a ∈ fp, a ∉ B) (h : Val K m B F H v d fp) : R K (rdH B H) v d := by
  cases m with
  | rd => exact h.1
  | bor n =>
    obtain ⟨⟨f, h, hf⟩, e⟩ := h
    exact Own.toR w.sub (fun a ha o e er => rdH_of (hf a ha) e er) h
  | own n => exact Own.toR w.sub (fun a ha o e er => rdH_of (hB a ha) e er) h
theorem Val.there {m : Mode} {v : V} {d : D} (h : Val K m B F H v d fp) : ∀ a ∈ fp, ∃ o, H a = some o ∧ Mut (some o) := by
  cases m with
  | rd => intro a ha; rw [h.2] at ha; cases ha
  | bor n => intro a ha; rw [h.2] at ha; cases ha
  | own n => exact Own.there h
/-- an atom is in every mode -/
def atomD : D → Bool
  | .non => true
  | .bl _ => true
  | .int _ => true
  | .str _ => true
  | .raw _ => true
  | _ => false
theorem Own.atom {n : Nat} {v : V} {d : D} (ha : atomD d = true) (h : R K F v d) : Own K F H n v d [] := by
  cases n with
  | zero => exact ⟨h, rfl⟩
  | succ n => cases d <;> first | exact ⟨h, rfl⟩ | (cases ha)
theorem Val.atom {m : Mode} {v : V} {d : D} (ha : atomD d = true) (h : ∀ F, R K F v d) : Val K m B F H v d [] := by
  cases m with
  | rd => exact ⟨h _, rfl⟩
  | bor n => exact ⟨⟨[], Own.atom ha (h _), fun a h => (by cases h)⟩, rfl⟩
  | own n => exact Own.atom ha (h _)
end
end GK

namespace GK
open PySem PySem.Spec PyProof.Rows L2

/-! ### the judgements over data -/
abbrev FE := Env → (D → Prop) → Prop
abbrev FT := Env → (Bool → Prop) → Prop
abbrev FA := Env → (List D → Prop) → Prop
/-- what is wanted behind a value -/
def Post (K : PySem.W.Frag) (B A : List Addr) (F H : Hp) (m : Mode) (R : D → Prop) (Q : VK) : Prop :=
  ∀ F' H' v d fp, Step B A F H F' H' → Val K m B F' H' v d fp → (∀ a ∈ fp, (a ∈ A ∨ H a = none) ∧ F' a = none ∧ a ∉ B) → fp.Nodup → R d → Q v H'
def PostT (B A : List Addr) (F H : Hp) (R : Bool → Prop) (Q : Bool → Hp → Prop) : Prop :=
  ∀ F' H' b, Step B A F H F' H' → R b → Q b H'
def ValL (K : PySem.W.Frag) (B : List Addr) (F H : Hp) : List Mode → List V → List D → List Addr → Prop
  | [], [], [], fp => fp = []
  | m :: ms, v :: vs, d :: ds, fp => ∃ f1 f2, fp = f1 ++ f2 ∧ Val K m B F H v d f1 ∧ ValL K B F H ms vs ds f2
  | _, _, _, _ => False
def PostA (K : PySem.W.Frag) (B A : List Addr) (F H : Hp) (ms : List Mode) (R : List D → Prop) (Q : List V → Hp → Prop) : Prop :=
  ∀ F' H' vs ds fp, Step B A F H F' H' → ValL K B F' H' ms vs ds fp → (∀ a ∈ fp, (a ∈ A ∨ H a = none) ∧ F' a = none ∧ a ∉ B) → fp.Nodup → R ds → Q vs H'
def tD (K : PySem.W.Frag) (B : List Addr) (m : Mode) (f : FE) : TE := fun σ H Q => ∃ F ρ fp R, StOk K B [] noH noH F H σ ρ fp ∧ f ρ R ∧ Post K B [] F H m R Q
def tDT (K : PySem.W.Frag) (B : List Addr) (f : FT) : TT := fun σ H Q => ∃ F ρ fp R, StOk K B [] noH noH F H σ ρ fp ∧ f ρ R ∧ PostT B [] F H R Q
def tDA (K : PySem.W.Frag) (B : List Addr) (ms : List Mode) (f : FA) : TA := fun σ H Q => ∃ F ρ fp R, StOk K B [] noH noH F H σ ρ fp ∧ f ρ R ∧ PostA K B [] F H ms R Q
abbrev DE (X : Cx) (B : List Addr) (e : Expr) (m : Mode) (f : FE) : Prop := PE X e (tD X.K B m f)
abbrev DT (X : Cx) (B : List Addr) (e : Expr) (f : FT) : Prop := PT X e (tDT X.K B f)
abbrev DA (X : Cx) (B : List Addr) (es : List Expr) (ms : List Mode) (f : FA) : Prop := PA X es (tDA X.K B ms f)
theorem PE.imp {X : Cx} {e : Expr} {t t' : TE} (h : PE X e t) (k : ∀ σ H Q, t' σ H Q → t σ H Q) : PE X e t' := ⟨fun pins s σ H Q I q => h.run pins s σ H Q I (k σ H Q q)⟩
theorem PT.imp {X : Cx} {e : Expr} {t t' : TT} (h : PT X e t) (k : ∀ σ H Q, t' σ H Q → t σ H Q) : PT X e t' := ⟨fun pins s σ H Q I q => h.run pins s σ H Q I (k σ H Q q)⟩
theorem PW.imp {X : Cx} {e : Expr} {t t' : TT} (h : PW X e t) (k : ∀ σ H Q, t' σ H Q → t σ H Q) : PW X e t' := ⟨fun w pins s σ H Q I q => h.run w pins s σ H Q I (k σ H Q q)⟩
theorem PA.imp {X : Cx} {e : List Expr} {t t' : TA} (h : PA X e t) (k : ∀ σ H Q, t' σ H Q → t σ H Q) : PA X e t' := ⟨fun p pins s σ H Q I q => h.run p pins s σ H Q I (k σ H Q q)⟩
theorem PS.imp {X : Cx} {e : Stmt} {t t' : TS} (h : PS X e t) (k : ∀ D σ H, t' D σ H → t D σ H) : PS X e t' := ⟨fun pins s σ H D I q => h.run pins s σ H D I (k D σ H q)⟩
theorem PSs.imp {X : Cx} {e : List Stmt} {t t' : TS} (h : PSs X e t) (k : ∀ D σ H, t' D σ H → t D σ H) : PSs X e t' := ⟨fun pins s σ H D I q => h.run pins s σ H D I (k D σ H q)⟩

section
variable {K : PySem.W.Frag} {B A : List Addr} {F F1 F' H H1 H' : Hp} {m : Mode} {Pn : List V} {σ : L2.St} {ρ : Env} {fp : List Addr}
/-- behind a step: what is new there was new before -/
theorem Step.new {a : Addr} (s : Step B A F H F1 H1) (hb : a ∉ B) (h : H1 a = none) : H a = none := by
  cases q : H a with
  | none => rfl
  | some o => rw [s.same a o hb q] at h; cases h
theorem Step.weak {A1 : List Addr} (s : Step B A1 F H F1 H1) (h : ∀ a ∈ A1, a ∈ A) : Step B A F H F1 H1 :=
  ⟨s.same, s.fs, fun a u e => (s.fresh a u e).imp id fun z => z.imp id fun z => z.imp id (h a), s.wf⟩
theorem Post.after {R : D → Prop} {Q : VK} {A1 : List Addr} (k : Post K B A F H m R Q) (s : Step B A F H F1 H1) (hA : ∀ a ∈ A1, a ∈ A ∨ H a = none) : Post K B A1 F1 H1 m R Q :=
  fun F' H' v d fp s' hv ho hn hR => k F' H' v d fp (s.trans s' fun a ha => (hA a ha).symm) hv (fun a ha => by
    obtain ⟨h1, h2, h3⟩ := ho a ha
    refine ⟨?_, h2, h3⟩
    rcases h1 with z | z
    · exact hA a z
    · exact .inr (s.new h3 z)) hn hR
theorem PostA.after {ms : List Mode} {R : List D → Prop} {Q : List V → Hp → Prop} {A1 : List Addr} (k : PostA K B A F H ms R Q) (s : Step B A F H F1 H1) (hA : ∀ a ∈ A1, a ∈ A ∨ H a = none) : PostA K B A1 F1 H1 ms R Q :=
  fun F' H' v d fp s' hv ho hn hR => k F' H' v d fp (s.trans s' fun a ha => (hA a ha).symm) hv (fun a ha => by
    obtain ⟨h1, h2, h3⟩ := ho a ha
    refine ⟨?_, h2, h3⟩
    rcases h1 with z | z
    · exact hA a z
    · exact .inr (s.new h3 z)) hn hR
theorem PostT.after {R : Bool → Prop} {Q : Bool → Hp → Prop} {A1 : List Addr} (k : PostT B A F H R Q) (s : Step B A F H F1 H1) (hA : ∀ a ∈ A1, a ∈ A ∨ H a = none) : PostT B A1 F1 H1 R Q :=
  fun F' H' b s' hR => k F' H' b (s.trans s' fun a ha => (hA a ha).symm) hR
/-- an atom comes -/
theorem Post.at {R : D → Prop} {Q : VK} {v : V} {d : D} (k : Post K B A F H m R Q) (w : WF B F H) (ha : atomD d = true) (h : ∀ F, GK.R K F v d) (q : R d) : Q v H := by
  exact k F H v d [] (Step.refl w) (Val.atom ha h) (fun a h => (by cases h)) List.nodup_nil q
theorem Post.int {R : D → Prop} {Q : VK} {i : Int} (k : Post K B A F H m R Q) (w : WF B F H) (q : R (.int i)) : Q (.int i) H := k.at w rfl (fun _ => .int i) q
theorem Post.bl {R : D → Prop} {Q : VK} {b : Bool} (k : Post K B A F H m R Q) (w : WF B F H) (q : R (.bl b)) : Q (.bl b) H := k.at w rfl (fun _ => .bl b) q
theorem Post.str {R : D → Prop} {Q : VK} {b : Str} (k : Post K B A F H m R Q) (w : WF B F H) (q : R (.str b)) : Q (.str b) H := k.at w rfl (fun _ => .str b) q
theorem Post.non {R : D → Prop} {Q : VK} (k : Post K B A F H m R Q) (w : WF B F H) (q : R .non) : Q .non H := k.at w rfl (fun _ => .non) q
end

/-! ### operations by values -/
/-- the addresses of a value that is owned -/
def Fp (B : List Addr) (F : Hp) (fp : List Addr) : Prop := (∀ a ∈ fp, F a = none ∧ a ∉ B) ∧ fp.Nodup
def Op1 (K : PySem.W.Frag) (r : V → Hp → VK → Prop) (m1 m : Mode) (g : D → (D → Prop) → Prop) : Prop :=
  ∀ B F H x d fp R Q, WF B F H → Val K m1 B F H x d fp → Fp B F fp → g d R → Post K B fp F H m R Q → r x H Q
def Op2 (K : PySem.W.Frag) (r : R2) (m1 m2 m : Mode) (g : D → D → (D → Prop) → Prop) : Prop :=
  ∀ B F H x y d e fp R Q, WF B F H → (∃ f1 f2, fp = f1 ++ f2 ∧ Val K m1 B F H x d f1 ∧ Val K m2 B F H y e f2) → Fp B F fp → g d e R → Post K B fp F H m R Q → r x y H Q
def OpN (K : PySem.W.Frag) (r : List V → Hp → VK → Prop) (ms : List Mode) (m : Mode) (g : List D → (D → Prop) → Prop) : Prop :=
  ∀ B F H vs ds fp R Q, WF B F H → ValL K B F H ms vs ds fp → Fp B F fp → g ds R → Post K B fp F H m R Q → r vs H Q
abbrev fUn (g : D → (D → Prop) → Prop) (f : FE) : FE := fun ρ R => f ρ fun x => g x R
abbrev fBin (g : D → D → (D → Prop) → Prop) (f f' : FE) : FE := fun ρ R => f ρ fun x => f' ρ fun y => g x y R
abbrev fArgs (g : List D → (D → Prop) → Prop) (f : FA) : FE := fun ρ R => f ρ fun xs => g xs R
abbrev fCons (f : FE) (fs : FA) : FA := fun ρ R => f ρ fun x => fs ρ fun xs => R (x :: xs)
abbrev fNil : FA := fun _ R => R []
section
variable {K : PySem.W.Frag} {m m1 m2 : Mode} {σ : L2.St} {H : Hp}
theorem tD_un {r : V → Hp → VK → Prop} {g : D → (D → Prop) → Prop} {f : FE} {Q : VK} (hr : Op1 K r m1 m g) (h : tD K B m (fUn g f) σ H Q) : tD K B m1 f σ H fun x H1 => r x H1 Q := by
  obtain ⟨F, ρ, fp, R, S, hf, k⟩ := h
  exact ⟨F, ρ, fp, _, S, hf, fun F1 H1 v d fp1 s1 hv o1 n1 hg => hr B F1 H1 v d fp1 R Q s1.wf hv ⟨fun a ha => (o1 a ha).2, n1⟩ hg (k.after s1 fun a ha => (o1 a ha).1)⟩
theorem tD_bin {r : R2} {g : D → D → (D → Prop) → Prop} {f f' : FE} {Q : VK} (hr : Op2 K r m1 m2 m g) (h : tD K B m (fBin g f f') σ H Q) : tD K B m1 f σ H fun x H1 => tD K B m2 f' σ H1 fun y H2 => r x y H2 Q := by
  obtain ⟨F, ρ, fp, R, S, hf, k⟩ := h
  refine ⟨F, ρ, fp, _, S, hf, fun F1 H1 v1 d1 fp1 s1 hv1 o1 n1 hg1 => ?_⟩
  refine ⟨F1, ρ, fp, _, S.step s1 (fun a ha => by cases ha), hg1, fun F2 H2 v2 d2 fp2 s2 hv2 o2 n2 hg2 => ?_⟩
  have t1 := hv1.there
  have nn : ∀ a ∈ fp1, F2 a = none := fun a ha => by
    obtain ⟨o, e, mu⟩ := t1 a ha
    exact s2.out e mu (o1 a ha).2.2 (o1 a ha).2.1 fun z => by cases z
  refine hr B F2 H2 v1 v2 d1 d2 (fp1 ++ fp2) R Q s2.wf ⟨fp1, fp2, rfl, hv1.step s2 fun a ha => (o1 a ha).2.2, hv2⟩ ⟨fun a ha => ?_, ?_⟩ hg2 ((k.after s1 (A1 := fp1) fun a ha => (o1 a ha).1).after (s2.weak fun a ha => by cases ha) fun a ha => ?_)
  · rcases List.mem_append.mp ha with z | z
    · exact ⟨nn a z, (o1 a z).2.2⟩
    · exact (o2 a z).2
  · refine List.nodup_append.mpr ⟨n1, n2, fun a ha b hb e => ?_⟩
    subst e
    obtain ⟨o, e, mu⟩ := t1 a ha
    rcases (o2 a hb).1 with z | z
    · cases z
    · rw [e] at z; cases z
  · rcases List.mem_append.mp ha with z | z
    · exact .inl z
    · exact .inr ((o2 a z).1.elim (fun z => by cases z) id)
end
theorem de_un {X : Cx} {e : Expr} {op : UnaryOp} {pos : Pos} {m m1 : Mode} {r : V → Hp → VK → Prop} {g : D → (D → Prop) → Prop} {f : FE} (ho : UnR X (unaryOp op) r) (hr : Op1 X.K r m1 m g) (h : DE X B e m1 f) : DE X B (.UnaryOp op e pos) m (fUn g f) :=
  PE.imp (pe_un ho h) fun _ _ _ q => tD_un hr q
theorem de_op {X : Cx} {a b : Expr} {op : Operator} {pos : Pos} {m m1 m2 : Mode} {r : R2} {g : D → D → (D → Prop) → Prop} {f f' : FE} (ho : OpR X (binaryOp op) r) (hr : Op2 X.K r m1 m2 m g) (ha : DE X B a m1 f) (hb : DE X B b m2 f') :
    DE X B (.BinOp a op b pos) m (fBin g f f') := PE.imp (pe_op ho ha hb) fun _ _ _ q => tD_bin hr q
theorem de_cmp {X : Cx} {a b : Expr} {op : CmpOp} {pos : Pos} {m m1 m2 : Mode} {r : R2} {g : D → D → (D → Prop) → Prop} {f f' : FE} (ho : OpR X (compareOp op) r) (hr : Op2 X.K r m1 m2 m g) (ha : DE X B a m1 f) (hb : DE X B b m2 f') (hm : behindInMarks op b = false) :
    DE X B (.Compare a [op] [b] pos) m (fBin g f f') := PE.imp (pe_cmpR ho ha hb hm) fun _ _ _ q => tD_bin hr q
theorem de_ix {X : Cx} {a b : Expr} {pos : Pos} {m m1 m2 : Mode} {r : R2} {g : D → D → (D → Prop) → Prop} {f f' : FE} (ho : IxR X r) (hr : Op2 X.K r m1 m2 m g) (ha : DE X B a m1 f) (hb : DE X B b m2 f') (hs : PlainIx b) :
    DE X B (.Subscript a b pos) m (fBin g f f') := PE.imp (pe_ix ho ha hb hs) fun _ _ _ q => tD_bin hr q

/-! ### another mode -/
section
variable {K : PySem.W.Frag} {B A : List Addr} {F H : Hp} {m : Mode} {R : D → Prop} {Q : VK}
theorem Post.rd (k : Post K B A F H .rd R Q) : Post K B A F H m R Q := fun F' H' v d fp s hv ho hn hR =>
  k F' H' v d [] s ⟨hv.rd s.wf fun a ha => (ho a ha).2.2, rfl⟩ (fun a ha => by cases ha) List.nodup_nil hR
theorem Post.bor0 (k : Post K B A F H (.own 0) R Q) : Post K B A F H (.bor 0) R Q := fun F' H' v d fp s hv ho hn hR => by
  obtain ⟨⟨f, h, hf⟩, e⟩ := hv
  exact k F' H' v d [] s ⟨h.1, rfl⟩ (fun a ha => by cases ha) List.nodup_nil hR
theorem mut_er {o : HO} (m : Mut (some o)) : erO o = o := by cases o <;> first | rfl | exact m.elim
theorem Post.frz {n : Nat} (k : Post K B A F H (.own 0) R Q) : Post K B A F H (.own n) R Q := fun F' H' v d fp s hv ho hn hR => by
  have hv : Own K F' H' n v d fp := hv
  have sF : Same F' (fun a => if a ∈ fp then H' a else F' a) := fun a u e => by
    show (if a ∈ fp then H' a else F' a) = some u
    by_cases ha : a ∈ fp
    · rw [(ho a ha).2.1] at e; cases e
    · rw [if_neg ha]; exact e
  refine k (fun a => if a ∈ fp then H' a else F' a) H' v d [] ⟨s.same, fun a u e => sF a u (s.fs a u e), fun a u e => ?_, ⟨fun a u e => ?_, s.wf.lock, s.wf.bag⟩⟩ ⟨?_, rfl⟩ (fun a ha => by cases ha) List.nodup_nil hR
  · by_cases ha : a ∈ fp
    · rcases (ho a ha).1 with z | z
      · exact .inr (.inr (.inr z))
      · exact .inr (.inl z)
    · rw [if_neg ha] at e
      exact s.fresh a u e
  · by_cases ha : a ∈ fp
    · rw [if_pos ha] at e
      obtain ⟨o, eo, mu⟩ := hv.there a ha
      rw [eo] at e
      cases e
      exact rdH_of (ho a ha).2.2 eo (mut_er mu)
    · rw [if_neg ha] at e
      exact s.wf.sub a u e
  · refine hv.toR sF fun a ha o e _ => ?_
    show (if a ∈ fp then H' a else F' a) = some o
    rw [if_pos ha]; exact e
/-- .. with all tuples -/
def addT (F G : Hp) : Hp := fun a => match F a with
  | some u => some u
  | none => match G a with
    | some (.tup vs) => some (.tup vs)
    | _ => none
theorem addT_left {F G : Hp} : Same F (addT F G) := fun a u e => by unfold addT; rw [e]
theorem addT_tup {F G : Hp} (s : Same F G) {a : Addr} {vs : List V} (h : G a = some (.tup vs)) : addT F G a = some (.tup vs) := by
  unfold addT
  cases q : F a with
  | none => rw [h]
  | some u => rw [s a u q] at h; cases h; rfl
theorem addT_cases {F G : Hp} {a : Addr} {u : HO} (h : addT F G a = some u) : F a = some u ∨ (G a = some u ∧ isTup u) := by
  unfold addT at h
  split at h
  · rename_i x e; left; rw [e]; exact h
  · split at h
    · rename_i e; right; cases h; exact ⟨e, trivial⟩
    · cases h
theorem Step.addT {F' H' : Hp} (s : Step B A F H F' H') : Step B A F H (addT F' (rdH B H')) H' :=
  ⟨s.same, fun a u e => addT_left a u (s.fs a u e), fun a u e => (addT_cases e).elim (s.fresh a u) fun z => .inr (.inr (.inl z.2)), ⟨fun a u e => (addT_cases e).elim (s.wf.sub a u) fun z => z.1, s.wf.lock, s.wf.bag⟩⟩
theorem Post.flat (k : Post K B A F H (.own 0) R Q) : Post K B A F H .rd (fun d => d.flat = true ∧ R d) Q := fun F' H' v d fp s hv ho hn hR =>
  k _ H' v d [] s.addT ⟨hv.1.flat (fun a vs e => addT_tup s.wf.sub e) hR.1, rfl⟩ (fun a ha => by cases ha) List.nodup_nil hR.2
end
abbrev fFlat (f : FE) : FE := fun ρ R => f ρ fun d => d.flat = true ∧ R d
section
variable {X : Cx} {e : Expr} {m : Mode} {f : FE}
theorem de_rd (h : DE X B e m f) : DE X B e .rd f := PE.imp h fun _ _ _ ⟨F, ρ, fp, R, S, hf, k⟩ => ⟨F, ρ, fp, R, S, hf, k.rd⟩
theorem de_frz {n : Nat} (h : DE X B e (.own n) f) : DE X B e (.own 0) f := PE.imp h fun _ _ _ ⟨F, ρ, fp, R, S, hf, k⟩ => ⟨F, ρ, fp, R, S, hf, k.frz⟩
theorem de_bor0 (h : DE X B e (.bor 0) f) : DE X B e (.own 0) f := PE.imp h fun _ _ _ ⟨F, ρ, fp, R, S, hf, k⟩ => ⟨F, ρ, fp, R, S, hf, k.bor0⟩
theorem de_flat (h : DE X B e m f) : DE X B e (.own 0) (fFlat f) := PE.imp (de_rd h) fun _ _ _ ⟨F, ρ, fp, R, S, hf, k⟩ => ⟨F, ρ, fp, _, S, hf, k.flat⟩
end

/-! ### names, constants -/
def slot : Env → Nat → Option (Nat × D)
  | [], _ => none
  | o :: _, 0 => o
  | _ :: r, i + 1 => slot r i
def fVar (i n : Nat) : FE := fun ρ R => match slot ρ i with
  | some (k, d) => k = n ∧ R d
  | none => False
theorem OwnE.slot {K : PySem.W.Frag} {F H : Hp} : ∀ {σ : L2.St} {ρ : Env} {fp : List Addr} {i n : Nat} {d : D}, OwnE K F H σ ρ fp → GK.slot ρ i = some (n, d) → ∃ v f, σ[i]? = some (some v) ∧ Own K F H n v d f ∧ ∀ a ∈ f, a ∈ fp
  | [], [], _, i, n, d, h, e => by cases e
  | _ :: σ, none :: ρ, fp, 0, n, d, h, e => by cases e
  | _ :: σ, none :: ρ, fp, i + 1, n, d, h, e => by
    obtain ⟨v, f, e1, e2, e3⟩ := OwnE.slot (σ := σ) (ρ := ρ) (i := i) h e
    exact ⟨v, f, e1, e2, e3⟩
  | some v :: σ, some (n, d) :: ρ, fp, 0, n', d', ⟨f1, f2, ef, h, t⟩, e => by
    cases e
    exact ⟨v, f1, rfl, h, fun a ha => by rw [ef]; exact List.mem_append_left _ ha⟩
  | some v :: σ, some (n, d) :: ρ, fp, i + 1, n', d', ⟨f1, f2, ef, h, t⟩, e => by
    obtain ⟨v, f, e1, e2, e3⟩ := OwnE.slot (σ := σ) (ρ := ρ) (i := i) t e
    exact ⟨v, f, e1, e2, fun a ha => by rw [ef]; exact List.mem_append_right _ (e3 a ha)⟩
section
variable {X : Cx} {pos : Pos} {m : Mode}
theorem de_var (i n : Nat) {x : Str} (hN : X.N[i]? = some x := by rfl) (hv : Vis X.env.scope x := by first | exact Or.inl rfl | exact Or.inr (Or.inl rfl) | exact Or.inr (Or.inr rfl)) (hd : (x == ("__debug__" : Str)) = false := by decide)
    (hcd : (x == ("__classdict__" : Str)) = false := by decide) : DE X B (.Name x pos) (.bor n) (fVar i n) :=
  PE.imp (pe_var hN hv hd hcd) fun σ H Q ⟨F, ρ, fp, R, S, hf, k⟩ => by
    unfold fVar at hf
    cases q : slot ρ i with
    | none => rw [q] at hf; exact hf.elim
    | some p =>
      obtain ⟨n', d⟩ := p
      rw [q] at hf
      obtain ⟨rfl, hR⟩ := hf
      obtain ⟨v, f, e1, e2, e3⟩ := S.own.slot q
      exact ⟨v, e1, k F H v d [] (Step.refl S.wf) ⟨⟨f, e2, fun a ha => (S.out a (e3 a ha)).2.1⟩, rfl⟩ (fun a ha => by cases ha) List.nodup_nil hR⟩
theorem de_v (i : Nat) {x : Str} (hN : X.N[i]? = some x := by rfl) (hv : Vis X.env.scope x := by first | exact Or.inl rfl | exact Or.inr (Or.inl rfl) | exact Or.inr (Or.inr rfl)) (hd : (x == ("__debug__" : Str)) = false := by decide)
    (hcd : (x == ("__classdict__" : Str)) = false := by decide) : DE X B (.Name x pos) (.own 0) (fVar i 0) := de_bor0 (de_var i 0 hN hv hd hcd)
theorem de_int {i : Int} {j} : DE X B (.Constant (.int i) j pos) m (fun _ R => R (.int i)) := PE.imp pe_int fun _ _ _ ⟨F, ρ, fp, R, S, hf, k⟩ => k.int S.wf hf
theorem de_bl {b : Bool} {j} : DE X B (.Constant (.bool b) j pos) m (fun _ R => R (.bl b)) := PE.imp pe_bl fun _ _ _ ⟨F, ρ, fp, R, S, hf, k⟩ => k.bl S.wf hf
theorem de_non {j} : DE X B (.Constant .none j pos) m (fun _ R => R .non) := PE.imp pe_non fun _ _ _ ⟨F, ρ, fp, R, S, hf, k⟩ => k.non S.wf hf
theorem de_str {x : Str} {j} : DE X B (.Constant (.str x) j pos) m (fun _ R => R (.str x)) := PE.imp pe_str fun _ _ _ ⟨F, ρ, fp, R, S, hf, k⟩ => k.str S.wf hf
end
end GK

namespace GK
open PySem PySem.Spec PyProof.Rows L2

/-! ### what a value is -/
section
variable {K : PySem.W.Frag} {B A : List Addr} {F H : Hp} {m : Mode} {fp : List Addr} {v : V}
theorem Val.atomR {d : D} (ha : atomD d = true) (h : Val K m B F H v d fp) : (∃ G, R K G v d) ∧ fp = [] := by
  cases m with
  | rd => exact ⟨⟨_, h.1⟩, h.2⟩
  | bor n =>
    obtain ⟨⟨f, h, _⟩, e⟩ := h
    refine ⟨?_, e⟩
    cases n with
    | zero => exact ⟨_, h.1⟩
    | succ n => cases d <;> first | exact ⟨_, h.1⟩ | (cases ha)
  | own n =>
    cases n with
    | zero => exact ⟨⟨_, h.1⟩, h.2⟩
    | succ n => cases d <;> first | exact ⟨⟨_, h.1⟩, h.2⟩ | (cases ha)
theorem Val.int {i : Int} (h : Val K m B F H v (.int i) fp) : v = .int i ∧ fp = [] := by
  obtain ⟨⟨G, h⟩, e⟩ := h.atomR rfl
  cases h
  exact ⟨rfl, e⟩
theorem Val.str {i : Str} (h : Val K m B F H v (.str i) fp) : v = .str i ∧ fp = [] := by
  obtain ⟨⟨G, h⟩, e⟩ := h.atomR rfl
  cases h
  exact ⟨rfl, e⟩
theorem Val.bl {i : Bool} (h : Val K m B F H v (.bl i) fp) : v = .bl i ∧ fp = [] := by
  obtain ⟨⟨G, h⟩, e⟩ := h.atomR rfl
  cases h
  exact ⟨rfl, e⟩
theorem Val.non (h : Val K m B F H v .non fp) : v = .non ∧ fp = [] := by
  obtain ⟨⟨G, h⟩, e⟩ := h.atomR rfl
  cases h
  exact ⟨rfl, e⟩
/-- the mode of what is within -/
def Mode.child : Mode → Mode
  | .rd => .rd
  | .bor 0 => .bor 0
  | .bor (n + 1) => .bor n
  | .own _ => .own 0
/-- what may be looked into -/
def Mode.look : Mode → Bool
  | .rd => true
  | .bor _ => true
  | .own 0 => true
  | .own _ => false
theorem OwnL.get {P : V → D → List Addr → Prop} : ∀ {vs : List V} {ds : List D} {f : List Addr}, OwnL P vs ds f → ∀ {i : Nat} {d : D}, ds[i]? = some d → ∃ x g, vs[i]? = some x ∧ P x d g ∧ ∀ a ∈ g, a ∈ f
  | [], [], _, _, i, d, e => by simp at e
  | v :: vs, d :: ds, fp, ⟨f1, f2, e, h, t⟩, 0, d', e' => by
    have e2 : d = d' := Option.some.inj e'
    subst e2
    exact ⟨v, f1, rfl, h, fun a ha => by rw [e]; exact List.mem_append_left _ ha⟩
  | v :: vs, d :: ds, fp, ⟨f1, f2, e, h, t⟩, i + 1, d', e' => by
    obtain ⟨x, g, h1, h2, h3⟩ := OwnL.get t (i := i) (d := d') e'
    exact ⟨x, g, h1, h2, fun a ha => by rw [e]; exact List.mem_append_right _ (h3 a ha)⟩
theorem OwnL.len {P : V → D → List Addr → Prop} : ∀ {vs : List V} {ds : List D} {f : List Addr}, OwnL P vs ds f → vs.length = ds.length
  | [], [], _, _ => rfl
  | v :: vs, d :: ds, fp, ⟨f1, f2, e, h, t⟩ => by rw [List.length_cons, List.length_cons, OwnL.len t]
/-- the items -/
def Items (K : PySem.W.Frag) (m : Mode) (B : List Addr) (F H : Hp) (vs : List V) (ds : List D) : Prop :=
  vs.length = ds.length ∧ ∀ (i : Nat) (d : D), ds[i]? = some d → ∃ x, vs[i]? = some x ∧ Val K m B F H x d []
theorem Items.of_RLrd {vs : List V} {ds : List D} (r : RL K (rdH B H) vs ds) : Items K .rd B F H vs ds := ⟨r.length, fun i d e => by
  obtain ⟨x, h1, h2⟩ := r.get e
  exact ⟨x, h1, h2, rfl⟩⟩
theorem Items.of_RL {vs : List V} {ds : List D} (r : RL K F vs ds) : Items K (.own 0) B F H vs ds := ⟨r.length, fun i d e => by
  obtain ⟨x, h1, h2⟩ := r.get e
  exact ⟨x, h1, h2, rfl⟩⟩
theorem Items.of_RLb {vs : List V} {ds : List D} (r : RL K F vs ds) : Items K (.bor 0) B F H vs ds := ⟨r.length, fun i d e => by
  obtain ⟨x, h1, h2⟩ := r.get e
  exact ⟨x, h1, ⟨[], ⟨h2, rfl⟩, fun a h => (by cases h)⟩, rfl⟩⟩
theorem Items.of_Own {n : Nat} {vs : List V} {ds : List D} {f : List Addr} (r : OwnL (Own K F H n) vs ds f) (hf : ∀ a ∈ f, a ∉ B) : Items K (.bor n) B F H vs ds := ⟨r.len, fun i d e => by
  obtain ⟨x, g, h1, h2, h3⟩ := r.get e
  exact ⟨x, h1, ⟨g, h2, fun a ha => hf a (h3 a ha)⟩, rfl⟩⟩
theorem lst_sub (w : WF B F H) {a : Addr} {vs : List V} (h : F a = some (.lst vs)) : SqL K H a vs := .inl (rd_of_rdH (w.sub _ _ h))
theorem tup_sub (w : WF B F H) {a : Addr} {vs : List V} (h : F a = some (.tup vs)) : SqT K H a vs := .inl (rd_of_rdH (w.sub _ _ h))
theorem R.lstI {G : Hp} {ds : List D} (h : R K G v (.lst ds)) : ∃ a vs, v = .ref a ∧ G a = some (.lst vs) ∧ RL K G vs ds := by
  cases h with | lst h r => exact ⟨_, _, rfl, h, r⟩
theorem R.tupI {G : Hp} {ds : List D} (h : R K G v (.tup ds)) : ∃ a vs, v = .ref a ∧ G a = some (.tup vs) ∧ RL K G vs ds := by
  cases h with | tup h r => exact ⟨_, _, rfl, h, r⟩
theorem R.dKI {G : Hp} {es : List (Key × D)} (h : R K G v (.dK es)) : ∃ a kvs, v = .ref a ∧ G a = some (.dK kvs) ∧ kvs.map (·.1) = es.map (·.1) ∧ RL K G (kvs.map (·.2)) (es.map (·.2)) := by
  cases h with | dK h hk r => exact ⟨_, _, rfl, h, hk, r⟩
theorem R.dTI {G : Hp} {es : List (List Key × D)} (h : R K G v (.dT es)) : ∃ a kvs, v = .ref a ∧ G a = some (.dT kvs) ∧ kvs.map (·.1) = es.map (·.1) ∧ RL K G (kvs.map (·.2)) (es.map (·.2)) := by
  cases h with | dT h hk r => exact ⟨_, _, rfl, h, hk, r⟩
theorem R.objI {G : Hp} {C : Addr} {es : List (Str × D)} (h : R K G v (.obj C es)) : ∃ a dx fs, v = .ref a ∧ G a = some (.ins C dx fs) ∧ fs.map (·.1) = es.map (·.1) ∧ RL K G (fs.map (·.2)) (es.map (·.2)) := by
  cases h with | obj h hk r => exact ⟨_, _, _, rfl, h, hk, r⟩
theorem Val.lst {ds : List D} (hm : m.look = true) (w : WF B F H) (h : Val K m B F H v (.lst ds) fp) : fp = [] ∧ ∃ a vs, v = .ref a ∧ SqL K H a vs ∧ Items K m.child B F H vs ds := by
  cases m with
  | rd =>
    obtain ⟨a, vs, e, h1, r⟩ := h.1.lstI
    exact ⟨h.2, a, vs, e, sqL_rd h1, .of_RLrd r⟩
  | bor n =>
    obtain ⟨⟨f, h, hf⟩, e0⟩ := h
    refine ⟨e0, ?_⟩
    cases n with
    | zero =>
      obtain ⟨a, vs, e, h1, r⟩ := h.1.lstI
      exact ⟨a, vs, e, lst_sub w h1, .of_RLb r⟩
    | succ n =>
      obtain ⟨a, vs, g, e, h1, ef, t⟩ := h
      exact ⟨a, vs, e, SqL.of h1, .of_Own t fun b hb => hf b (by rw [ef]; exact List.mem_cons_of_mem _ hb)⟩
  | own n =>
    cases n with
    | zero =>
      obtain ⟨a, vs, e, h1, r⟩ := h.1.lstI
      exact ⟨h.2, a, vs, e, lst_sub w h1, .of_RL r⟩
    | succ n => cases hm
theorem Val.tup {ds : List D} (hm : m.look = true) (w : WF B F H) (h : Val K m B F H v (.tup ds) fp) : fp = [] ∧ ∃ a vs, v = .ref a ∧ SqT K H a vs ∧ Items K m.child B F H vs ds := by
  cases m with
  | rd =>
    obtain ⟨a, vs, e, h1, r⟩ := h.1.tupI
    exact ⟨h.2, a, vs, e, sqT_rd h1, .of_RLrd r⟩
  | bor n =>
    obtain ⟨⟨f, h, hf⟩, e0⟩ := h
    refine ⟨e0, ?_⟩
    cases n with
    | zero =>
      obtain ⟨a, vs, e, h1, r⟩ := h.1.tupI
      exact ⟨a, vs, e, tup_sub w h1, .of_RLb r⟩
    | succ n =>
      obtain ⟨a, vs, e, h1, t⟩ := h
      exact ⟨a, vs, e, tup_sub w h1, .of_Own t hf⟩
  | own n =>
    cases n with
    | zero =>
      obtain ⟨a, vs, e, h1, r⟩ := h.1.tupI
      exact ⟨h.2, a, vs, e, tup_sub w h1, .of_RL r⟩
    | succ n => cases hm
theorem Val.dK {es : List (Key × D)} (hm : m.look = true) (w : WF B F H) (h : Val K m B F H v (.dK es) fp) : fp = [] ∧ ∃ a kvs, v = .ref a ∧ Rd H a (.dK kvs) ∧ kvs.map (·.1) = es.map (·.1) ∧ Items K m.child B F H (kvs.map (·.2)) (es.map (·.2)) := by
  cases m with
  | rd =>
    obtain ⟨a, vs, e, h1, hk, r⟩ := h.1.dKI
    exact ⟨h.2, a, vs, e, rd_of_rdH h1, hk, .of_RLrd r⟩
  | bor n =>
    obtain ⟨⟨f, h, hf⟩, e0⟩ := h
    refine ⟨e0, ?_⟩
    cases n with
    | zero =>
      obtain ⟨a, vs, e, h1, hk, r⟩ := h.1.dKI
      exact ⟨a, vs, e, rd_of_rdH (w.sub _ _ h1), hk, .of_RLb r⟩
    | succ n =>
      obtain ⟨a, vs, g, e, h1, ef, hk, t⟩ := h
      exact ⟨a, vs, e, .inl h1, hk, .of_Own t fun b hb => hf b (by rw [ef]; exact List.mem_cons_of_mem _ hb)⟩
  | own n =>
    cases n with
    | zero =>
      obtain ⟨a, vs, e, h1, hk, r⟩ := h.1.dKI
      exact ⟨h.2, a, vs, e, rd_of_rdH (w.sub _ _ h1), hk, .of_RL r⟩
    | succ n => cases hm
theorem Val.dT {es : List (List Key × D)} (hm : m.look = true) (w : WF B F H) (h : Val K m B F H v (.dT es) fp) : fp = [] ∧ ∃ a kvs, v = .ref a ∧ Rd H a (.dT kvs) ∧ kvs.map (·.1) = es.map (·.1) ∧ Items K m.child B F H (kvs.map (·.2)) (es.map (·.2)) := by
  cases m with
  | rd =>
    obtain ⟨a, vs, e, h1, hk, r⟩ := h.1.dTI
    exact ⟨h.2, a, vs, e, rd_of_rdH h1, hk, .of_RLrd r⟩
  | bor n =>
    obtain ⟨⟨f, h, hf⟩, e0⟩ := h
    refine ⟨e0, ?_⟩
    cases n with
    | zero =>
      obtain ⟨a, vs, e, h1, hk, r⟩ := h.1.dTI
      exact ⟨a, vs, e, rd_of_rdH (w.sub _ _ h1), hk, .of_RLb r⟩
    | succ n =>
      obtain ⟨a, vs, g, e, h1, ef, hk, t⟩ := h
      exact ⟨a, vs, e, .inl h1, hk, .of_Own t fun b hb => hf b (by rw [ef]; exact List.mem_cons_of_mem _ hb)⟩
  | own n =>
    cases n with
    | zero =>
      obtain ⟨a, vs, e, h1, hk, r⟩ := h.1.dTI
      exact ⟨h.2, a, vs, e, rd_of_rdH (w.sub _ _ h1), hk, .of_RL r⟩
    | succ n => cases hm
/-- an instance is never locked -/
theorem ins_of (w : WF B F H) {a C dx : Addr} {fs : List (Str × V)} (h : rdH B H a = some (.ins C dx fs)) : H a = some (.ins C dx fs) := by
  obtain ⟨hb, x, e, n⟩ := rdH_some h
  cases x <;> first | (rw [e]; exact congrArg some n) | skip
  rename_i o u
  have := w.lock a o u hb e
  have n' : u = .ins C dx fs := n
  rw [n'] at this
  exact this.elim
theorem tup_of (w : WF B F H) {a : Addr} {vs : List V} (h : rdH B H a = some (.tup vs)) : H a = some (.tup vs) := by
  obtain ⟨hb, x, e, n⟩ := rdH_some h
  cases x <;> first | (rw [e]; exact congrArg some n) | skip
  rename_i o u
  have := w.lock a o u hb e
  have n' : u = .tup vs := n
  rw [n'] at this
  exact this.elim
theorem lst_of (w : WF B F H) {a : Addr} {vs : List V} (h : rdH B H a = some (.lst vs)) : H a = some (.lst vs) := by
  obtain ⟨hb, x, e, n⟩ := rdH_some h
  cases x <;> first | (rw [e]; exact congrArg some n) | skip
  rename_i o u
  have := w.lock a o u hb e
  have n' : u = .lst vs := n
  rw [n'] at this
  exact this.elim
theorem Val.obj {C : Addr} {es : List (Str × D)} (hm : m.look = true) (w : WF B F H) (h : Val K m B F H v (.obj C es) fp) : fp = [] ∧ ∃ a dx fs, v = .ref a ∧ H a = some (.ins C dx fs) ∧ fs.map (·.1) = es.map (·.1) ∧ Items K m.child B F H (fs.map (·.2)) (es.map (·.2)) := by
  cases m with
  | rd =>
    obtain ⟨a, dx, vs, e, h1, hk, r⟩ := h.1.objI
    exact ⟨h.2, a, dx, vs, e, ins_of w h1, hk, .of_RLrd r⟩
  | bor n =>
    obtain ⟨⟨f, h, hf⟩, e0⟩ := h
    refine ⟨e0, ?_⟩
    cases n with
    | zero =>
      obtain ⟨a, dx, vs, e, h1, hk, r⟩ := h.1.objI
      exact ⟨a, dx, vs, e, ins_of w (w.sub _ _ h1), hk, .of_RLb r⟩
    | succ n =>
      obtain ⟨a, dx, vs, g, e, h1, ef, hk, t⟩ := h
      exact ⟨a, dx, vs, e, h1, hk, .of_Own t fun b hb => hf b (by rw [ef]; exact List.mem_cons_of_mem _ hb)⟩
  | own n =>
    cases n with
    | zero =>
      obtain ⟨a, dx, vs, e, h1, hk, r⟩ := h.1.objI
      exact ⟨h.2, a, dx, vs, e, ins_of w (w.sub _ _ h1), hk, .of_RL r⟩
    | succ n => cases hm
/-- something of a mode comes that owns nothing new -/
theorem Post.val {R : D → Prop} {Q : VK} {d : D} (k : Post K B A F H m R Q) (w : WF B F H) (h : Val K m B F H v d []) (q : R d) : Q v H :=
  k F H v d [] (Step.refl w) h (fun a h => (by cases h)) List.nodup_nil q
end

/-! ### ints -/
def g2I (c : Int → Int → Prop) (h : Int → Int → D) : D → D → (D → Prop) → Prop
  | .int i, .int j, R => c i j ∧ R (h i j)
  | _, _, _ => False
def g2I0 (h : Int → Int → D) : D → D → (D → Prop) → Prop
  | .int i, .int j, R => R (h i j)
  | _, _, _ => False
def g1I (h : Int → D) : D → (D → Prop) → Prop
  | .int i, R => R (h i)
  | _, _ => False
section
variable {K : PySem.W.Frag} {m m1 m2 : Mode}
theorem op2I {c : Int → Int → Prop} {h : Int → Int → Int} : Op2 K (rI c fun i j => .int (h i j)) m1 m2 m (g2I c fun i j => .int (h i j)) := by
  intro B F H x y d e fp R Q w ⟨f1, f2, ef, h1, h2⟩ _ hg k
  cases d <;> try exact hg.elim
  cases e <;> try exact hg.elim
  obtain ⟨rfl, rfl⟩ := h1.int
  obtain ⟨rfl, rfl⟩ := h2.int
  exact ⟨_, _, rfl, rfl, hg.1, k.int w hg.2⟩
theorem op2I0 {h : Int → Int → Int} : Op2 K (rI0 fun i j => .int (h i j)) m1 m2 m (g2I0 fun i j => .int (h i j)) := by
  intro B F H x y d e fp R Q w ⟨f1, f2, ef, h1, h2⟩ _ hg k
  cases d <;> try exact hg.elim
  cases e <;> try exact hg.elim
  obtain ⟨rfl, rfl⟩ := h1.int
  obtain ⟨rfl, rfl⟩ := h2.int
  exact ⟨_, _, rfl, rfl, k.int w hg⟩
theorem op2B0 {h : Int → Int → Bool} : Op2 K (rI0 fun i j => .bl (h i j)) m1 m2 m (g2I0 fun i j => .bl (h i j)) := by
  intro B F H x y d e fp R Q w ⟨f1, f2, ef, h1, h2⟩ _ hg k
  cases d <;> try exact hg.elim
  cases e <;> try exact hg.elim
  obtain ⟨rfl, rfl⟩ := h1.int
  obtain ⟨rfl, rfl⟩ := h2.int
  exact ⟨_, _, rfl, rfl, k.bl w hg⟩
theorem op1I {h : Int → Int} : Op1 K (rU fun i => .int (h i)) m1 m (g1I fun i => .int (h i)) := by
  intro B F H x d fp R Q w h1 _ hg k
  cases d <;> try exact hg.elim
  obtain ⟨rfl, rfl⟩ := h1.int
  exact ⟨_, rfl, k.int w hg⟩
end
section
variable {X : Cx} {a b : Expr} {pos : Pos} {m m1 m2 : Mode} {f f' : FE}
abbrev gAddI := g2I0 fun i j => D.int (i + j)
abbrev gSubI := g2I0 fun i j => D.int (i - j)
abbrev gMulI := g2I CMul fun i j => D.int (i * j)
abbrev gDivI := g2I CDiv fun i j => D.int (i / j)
abbrev gModI := g2I (fun _ j => 0 < j) fun i j => D.int (i % j)
abbrev gNegI := g1I fun i => D.int (-i)
abbrev gLt := g2I0 fun i j => D.bl (decide (i < j))
abbrev gLe := g2I0 fun i j => D.bl (decide (i ≤ j))
abbrev gGt := g2I0 fun i j => D.bl (decide (j < i))
abbrev gGe := g2I0 fun i j => D.bl (decide (j ≤ i))
theorem de_add (ha : DE X B a m1 f) (hb : DE X B b m2 f') : DE X B (.BinOp a .Add b pos) m (fBin gAddI f f') := de_op op_add op2I0 ha hb
theorem de_sub (ha : DE X B a m1 f) (hb : DE X B b m2 f') : DE X B (.BinOp a .Sub b pos) m (fBin gSubI f f') := de_op op_sub op2I0 ha hb
theorem de_mul (ha : DE X B a m1 f) (hb : DE X B b m2 f') : DE X B (.BinOp a .Mult b pos) m (fBin gMulI f f') := de_op op_mul op2I ha hb
theorem de_div (ha : DE X B a m1 f) (hb : DE X B b m2 f') : DE X B (.BinOp a .FloorDiv b pos) m (fBin gDivI f f') := de_op op_fdiv op2I ha hb
theorem de_mod (ha : DE X B a m1 f) (hb : DE X B b m2 f') : DE X B (.BinOp a .Mod b pos) m (fBin gModI f f') := de_op op_mod op2I ha hb
theorem de_neg (ha : DE X B a m1 f) : DE X B (.UnaryOp .USub a pos) m (fUn gNegI f) := de_un un_neg op1I ha
theorem de_lt (ha : DE X B a m1 f) (hb : DE X B b m2 f') : DE X B (.Compare a [.Lt] [b] pos) m (fBin gLt f f') := de_cmp op_lt op2B0 ha hb (nomark _)
theorem de_le (ha : DE X B a m1 f) (hb : DE X B b m2 f') : DE X B (.Compare a [.LtE] [b] pos) m (fBin gLe f f') := de_cmp op_le op2B0 ha hb (nomark _)
theorem de_gt (ha : DE X B a m1 f) (hb : DE X B b m2 f') : DE X B (.Compare a [.Gt] [b] pos) m (fBin gGt f f') := de_cmp op_gt op2B0 ha hb (nomark _)
theorem de_ge (ha : DE X B a m1 f) (hb : DE X B b m2 f') : DE X B (.Compare a [.GtE] [b] pos) m (fBin gGe f f') := de_cmp op_ge op2B0 ha hb (nomark _)
end
end GK

namespace GK
open PySem PySem.Spec PyProof.Rows L2

/-! ### new objects -/
section
variable {K : PySem.W.Frag} {B A : List Addr} {F H H' : Hp} {p : Addr} {o : HO}
theorem BagOk.keep (b : BagOk B H) (s : ∀ a ∈ B, ∀ o, H a = some o → H' a = some o) : BagOk B H' := by
  rcases b with e | ⟨b, c, l, ts, cells, left, turn, e, h0, h1, h2, h3, r⟩
  · exact .inl e
  · refine .inr ⟨b, c, l, ts, cells, left, turn, e, fun t ht => ?_, s b ?_ _ h1, s c ?_ _ h2, s l ?_ _ h3, r⟩
    · obtain ⟨o, xs, q⟩ := h0 t ht
      exact ⟨o, xs, s t (by rw [e]; simp [ht]) _ q⟩
    all_goals (rw [e]; simp)
theorem BagOk.there (b : BagOk B H) {a : Addr} (h : a ∈ B) : ∃ o, H a = some o ∧ ¬ isTup o := by
  rcases b with e | ⟨b, c, l, ts, cells, left, turn, e, h0, h1, h2, h3, r⟩
  · rw [e] at h; cases h
  · rw [e] at h
    simp only [List.mem_cons] at h
    rcases h with rfl | rfl | rfl | h
    · exact ⟨_, h1, fun z => z⟩
    · exact ⟨_, h2, fun z => z⟩
    · exact ⟨_, h3, fun z => z⟩
    · obtain ⟨o, xs, q⟩ := h0 a h
      exact ⟨_, q, fun z => z⟩
theorem WF.notB (w : WF B F H) (hp : H p = none) : p ∉ B := fun h => by
  obtain ⟨o, e, _⟩ := w.bag.there h
  rw [hp] at e; cases e
theorem same_upd (hp : H p = none) : ∀ a u, H a = some u → upd H p o a = some u := fun a u e => by rw [upd_ne (ne_of_none e hp)]; exact e
theorem F_none (w : WF B F H) (hp : H p = none) : F p = none := by
  cases q : F p with
  | none => rfl
  | some u =>
    obtain ⟨_, x, e, _⟩ := rdH_some (w.sub p u q)
    rw [hp] at e; cases e
theorem WF.laid (w : WF B F H) (hp : H p = none) (ho : erO o = o) : WF B F (upd H p o) :=
  ⟨fun a u e => rdH_same (fun a u _ h => same_upd hp a u h) a u (w.sub a u e), fun a ob u hb e => by
    by_cases h : a = p
    · subst h
      rw [upd_same] at e
      have e' : o = .frz ob u := Option.some.inj e
      rw [e'] at ho
      have z : u = .frz ob u := ho
      have : sizeOf u = sizeOf (HO.frz ob u) := congrArg sizeOf z
      simp at this
    · rw [upd_ne h] at e; exact w.lock a ob u hb e, w.bag.keep fun a _ u h => same_upd hp a u h⟩
theorem WF.laidF (w : WF B F H) (hp : H p = none) (ho : erO o = o) : WF B (upd F p o) (upd H p o) :=
  ⟨fun a u e => by
    by_cases h : a = p
    · subst h
      rw [upd_same] at e
      cases e
      exact rdH_of (w.notB hp) upd_same ho
    · rw [upd_ne h] at e
      exact (w.laid hp ho).sub a u e, (w.laid hp ho).lock, (w.laid hp ho).bag⟩
theorem Step.laid (w : WF B F H) (hp : H p = none) (ho : erO o = o) : Step B A F H F (upd H p o) :=
  ⟨fun a u _ h => same_upd hp a u h, fun _ _ h => h, fun _ _ h => .inl h, w.laid hp ho⟩
theorem Step.laidF (w : WF B F H) (hp : H p = none) (ho : erO o = o) : Step B A F H (upd F p o) (upd H p o) :=
  ⟨fun a u _ h => same_upd hp a u h, fun a u h => by rw [upd_ne (ne_of_none h (F_none w hp))]; exact h, fun a u h => by
    by_cases e : a = p
    · subst e; exact .inr (.inl hp)
    · rw [upd_ne e] at h; exact .inl h, w.laidF hp ho⟩
theorem erO_of_isTup {vs : List V} : erO (.tup vs) = .tup vs := rfl
theorem OwnL.zero {vs : List V} {ds : List D} (r : RL K F vs ds) : OwnL (Own K F H 0) vs ds [] := by
  cases r with
  | nil => rfl
  | cons h t => exact ⟨[], [], rfl, ⟨h, rfl⟩, OwnL.zero t⟩
termination_by ds.length
variable {R : D → Prop} {Q : VK} {n : Nat} {vs : List V} {ds : List D} {f : List Addr}
/-- a new list of what is owned -/
theorem Post.newLst (k : Post K B A F H (.own (n + 1)) R Q) (w : WF B F H) (hf : Fp B F f) (hA : ∀ a ∈ f, a ∈ A) (h : OwnL (Own K F H n) vs ds f) (q : R (.lst ds)) (hp : H p = none) : Q (.ref p) (upd H p (.lst vs)) := by
  have hf1 : ∀ a ∈ f, ∃ o, H a = some o ∧ Mut (some o) := h.there fun v d f q => Own.there q
  refine k F _ _ (.lst ds) (p :: f) (Step.laid w hp rfl) ⟨p, vs, f, rfl, upd_same, rfl, h.imp fun v d g hg => Own.mono (fun _ _ h => h) fun a _ o e => same_upd hp a o e⟩ (fun a ha => ?_) ?_ q
  · rcases List.mem_cons.mp ha with z | z
    · rw [z]; exact ⟨.inr hp, F_none w hp, w.notB hp⟩
    · exact ⟨.inl (hA a z), hf.1 a z⟩
  · refine List.nodup_cons.mpr ⟨fun z => ?_, hf.2⟩
    obtain ⟨o, e, _⟩ := hf1 p z
    rw [hp] at e; cases e
theorem Post.newLst0 (k : Post K B A F H (.own 1) R Q) (w : WF B F H) (h : RL K F vs ds) (q : R (.lst ds)) (hp : H p = none) : Q (.ref p) (upd H p (.lst vs)) :=
  k.newLst (f := []) w ⟨fun a h => (by cases h), List.nodup_nil⟩ (fun a h => (by cases h)) (OwnL.zero h) q hp
theorem Post.newTup (k : Post K B A F H (.own 0) R Q) (w : WF B F H) (h : RL K F vs ds) (q : R (.tup ds)) (hp : H p = none) : Q (.ref p) (upd H p (.tup vs)) := by
  have s := Step.laidF (A := A) w hp (o := .tup vs) rfl
  exact k _ _ _ (.tup ds) [] s ⟨.tup upd_same (h.mono s.fs), rfl⟩ (fun a h => (by cases h)) List.nodup_nil q
/-- a new tuple of what is owned -/
theorem Post.newTupN (k : Post K B A F H (.own (n + 1)) R Q) (w : WF B F H) (hf : Fp B F f) (hA : ∀ a ∈ f, a ∈ A) (h : OwnL (Own K F H n) vs ds f) (q : R (.tup ds)) (hp : H p = none) : Q (.ref p) (upd H p (.tup vs)) := by
  have hf1 : ∀ a ∈ f, ∃ o, H a = some o ∧ Mut (some o) := h.there fun v d f q => Own.there q
  have s := Step.laidF (A := A) w hp (o := .tup vs) rfl
  refine k _ _ _ (.tup ds) f s ⟨p, vs, rfl, upd_same, h.imp fun v d g hg => Own.mono s.fs fun a _ o e => same_upd hp a o e⟩ (fun a ha => ⟨.inl (hA a ha), ?_, (hf.1 a ha).2⟩) hf.2 q
  obtain ⟨o, e, _⟩ := hf1 a ha
  rw [upd_ne (ne_of_none e hp)]
  exact (hf.1 a ha).1
end

/-! ### argument lists, displays -/
section
variable {X : Cx} {e : Expr} {es : List Expr} {m : Mode} {ms : List Mode} {f : FE} {fs : FA} {pos : Pos}
theorem ValL.step {K : PySem.W.Frag} {B A : List Addr} {F H F' H' : Hp} (s : Step B A F H F' H') : ∀ {ms : List Mode} {vs : List V} {ds : List D} {fp : List Addr}, ValL K B F H ms vs ds fp → (∀ a ∈ fp, a ∉ B) → ValL K B F' H' ms vs ds fp
  | [], [], [], _, h, _ => h
  | m :: ms, v :: vs, d :: ds, fp, ⟨f1, f2, e, h, t⟩, hB => ⟨f1, f2, e, h.step s fun a ha => hB a (by rw [e]; exact List.mem_append_left _ ha), ValL.step s t fun a ha => hB a (by rw [e]; exact List.mem_append_right _ ha)⟩
theorem ValL.there {K : PySem.W.Frag} {B : List Addr} {F H : Hp} : ∀ {ms : List Mode} {vs : List V} {ds : List D} {fp : List Addr}, ValL K B F H ms vs ds fp → ∀ a ∈ fp, ∃ o, H a = some o ∧ Mut (some o)
  | [], [], [], _, h, a, ha => by rw [show _ = _ from h] at ha; cases ha
  | m :: ms, v :: vs, d :: ds, fp, ⟨f1, f2, e, h, t⟩, a, ha => by
    rw [e] at ha
    rcases List.mem_append.mp ha with z | z
    · exact h.there a z
    · exact t.there a z
theorem da_nil : DA X B [] [] fNil := PA.imp pa_nil fun σ H Q ⟨F, ρ, fp, R, S, hf, k⟩ => k F H [] [] [] (Step.refl S.wf) rfl (fun a h => (by cases h)) List.nodup_nil hf
theorem da_cons (h : DE X B e m f) (hr : DA X B es ms fs) (hs : starEach (e :: es) X.env = (false, eval e X.env) :: starEach es X.env := by rfl) : DA X B (e :: es) (m :: ms) (fCons f fs) :=
  PA.imp (pa_cons h hr hs) fun σ H Q ⟨F, ρ, fp, R, S, hf, k⟩ => by
    refine ⟨F, ρ, fp, _, S, hf, fun F1 H1 v1 d1 fp1 s1 hv1 o1 n1 hg1 => ?_⟩
    refine ⟨F1, ρ, fp, _, S.step s1 (fun a ha => by cases ha), hg1, fun F2 H2 v2 d2 fp2 s2 hv2 o2 n2 hg2 => ?_⟩
    have t1 := hv1.there
    have nn : ∀ a ∈ fp1, F2 a = none := fun a ha => by
      obtain ⟨o, e, mu⟩ := t1 a ha
      exact s2.out e mu (o1 a ha).2.2 (o1 a ha).2.1 fun z => by cases z
    refine k F2 H2 (v1 :: v2) (d1 :: d2) (fp1 ++ fp2) (s1.trans s2 fun a ha => by cases ha) ⟨fp1, fp2, rfl, hv1.step s2 fun a ha => (o1 a ha).2.2, hv2⟩ (fun a ha => ?_) ?_ hg2
    · rcases List.mem_append.mp ha with z | z
      · exact ⟨(o1 a z).1, nn a z, (o1 a z).2.2⟩
      · exact ⟨.inr (s1.new (o2 a z).2.2 ((o2 a z).1.elim (fun z => by cases z) id)), (o2 a z).2⟩
    · refine List.nodup_append.mpr ⟨n1, n2, fun a ha b hb e => ?_⟩
      subst e
      obtain ⟨o, e, mu⟩ := t1 a ha
      rcases (o2 a hb).1 with z | z
      · cases z
      · rw [e] at z; cases z
theorem ValL.own {K : PySem.W.Frag} {B : List Addr} {F H : Hp} {n : Nat} : ∀ {ms : List Mode} {vs : List V} {ds : List D} {fp : List Addr}, (∀ m ∈ ms, m = .own n) → ValL K B F H ms vs ds fp → OwnL (Own K F H n) vs ds fp
  | [], [], [], _, _, h => h
  | m :: ms, v :: vs, d :: ds, fp, hm, ⟨f1, f2, e, h, t⟩ => by
    have em := hm m List.mem_cons_self
    subst em
    exact ⟨f1, f2, e, h, ValL.own (fun m h => hm m (List.mem_cons_of_mem _ h)) t⟩
theorem ValL.len {K : PySem.W.Frag} {B : List Addr} {F H : Hp} : ∀ {ms : List Mode} {vs : List V} {ds : List D} {fp : List Addr}, ValL K B F H ms vs ds fp → vs.length = ds.length
  | [], [], [], _, h => rfl
  | m :: ms, v :: vs, d :: ds, fp, ⟨f1, f2, e, h, t⟩ => by rw [List.length_cons, List.length_cons, t.len]
theorem OwnL.toRL0 {K : PySem.W.Frag} {F H : Hp} : ∀ {vs : List V} {ds : List D} {fp : List Addr}, OwnL (Own K F H 0) vs ds fp → RL K F vs ds
  | [], [], _, h => .nil
  | v :: vs, d :: ds, fp, ⟨f1, f2, e, h, t⟩ => .cons h.1 (OwnL.toRL0 t)
def gTup (xs : List D) (R : D → Prop) : Prop := xs.length ≤ sizeLine ∧ R (.tup xs)
def gLst (xs : List D) (R : D → Prop) : Prop := xs.length ≤ sizeLine ∧ R (.lst xs)
/-- (a, b, ..) -/
theorem de_tup {k : Nat} (h : DA X B es ms fs) (hm : ∀ m ∈ ms, m = .own 0 := by simp) : DE X B (.Tuple es k pos) (.own 0) (fArgs gTup fs) := PE.imp (pe_tup h) fun σ H Q ⟨F, ρ, fp, R, S, hf, k⟩ => by
  refine ⟨F, ρ, fp, _, S, hf, fun F1 H1 vs ds fp1 s1 hv o1 n1 hg => ⟨by rw [hv.len]; exact hg.1, fun p hp => ?_⟩⟩
  exact (k.after s1 (A1 := fp1) fun a ha => (o1 a ha).1).newTup s1.wf (hv.own hm).toRL0 hg.2 hp
theorem de_tupN (n : Nat) {k : Nat} (h : DA X B es ms fs) (hm : ∀ m ∈ ms, m = .own n := by simp) : DE X B (.Tuple es k pos) (.own (n + 1)) (fArgs gTup fs) := PE.imp (pe_tup h) fun σ H Q ⟨F, ρ, fp, R, S, hf, k⟩ => by
  refine ⟨F, ρ, fp, _, S, hf, fun F1 H1 vs ds fp1 s1 hv o1 n1 hg => ⟨by rw [hv.len]; exact hg.1, fun p hp => ?_⟩⟩
  exact (k.after s1 (A1 := fp1) fun a ha => (o1 a ha).1).newTupN s1.wf ⟨fun a ha => (o1 a ha).2, n1⟩ (fun _ h => h) (hv.own hm) hg.2 hp
/-- [a, b, ..] -/
theorem de_lst (n : Nat) (h : DA X B es ms fs) (hm : ∀ m ∈ ms, m = .own n := by simp) : DE X B (.List es pos) (.own (n + 1)) (fArgs gLst fs) := PE.imp (pe_lst h) fun σ H Q ⟨F, ρ, fp, R, S, hf, k⟩ => by
  refine ⟨F, ρ, fp, _, S, hf, fun F1 H1 vs ds fp1 s1 hv o1 n1 hg => ⟨by rw [hv.len]; exact hg.1, fun p hp => ?_⟩⟩
  exact (k.after s1 (A1 := fp1) fun a ha => (o1 a ha).1).newLst s1.wf ⟨fun a ha => (o1 a ha).2, n1⟩ (fun _ h => h) (hv.own hm) hg.2 hp
end
end GK

namespace GK
open PySem PySem.Spec PyProof.Rows L2

/-! ### statements over data -/
structure DEnds where
  nx : Env → Prop
  rt : D → Env → Prop
  bk : Env → Prop := fun _ => False
  ct : Env → Prop := fun _ => False
abbrev FS := DEnds → Env → Prop
abbrev FM := Env → (D → Env → Prop) → Prop
/-- the addresses of a value, apart from all else -/
def Apart (B : List Addr) (Z0 F : Hp) (fp f : List Addr) : Prop := (∀ a ∈ f, F a = none ∧ a ∉ B ∧ Z0 a = none ∧ a ∉ fp) ∧ f.Nodup
structure Links (K : PySem.W.Frag) (B : List Addr) (Pn : List V) (Z0 F0 : Hp) (mr : Mode) (E : DEnds) (Dn : Ends) : Prop where
  nx : ∀ F H σ ρ fp, StOk K B Pn Z0 F0 F H σ ρ fp → E.nx ρ → Dn.nx σ H
  rt : ∀ F H σ ρ fp v d f, StOk K B Pn Z0 F0 F H σ ρ fp → Val K mr B F H v d f → Apart B Z0 F fp f → E.rt d ρ → Dn.rt v H
  bk : ∀ F H σ ρ fp, StOk K B Pn Z0 F0 F H σ ρ fp → E.bk ρ → Dn.bk σ H
  ct : ∀ F H σ ρ fp, StOk K B Pn Z0 F0 F H σ ρ fp → E.ct ρ → Dn.ct σ H
def tDS (K : PySem.W.Frag) (B : List Addr) (pin : Nat) (mr : Mode) (g : FS) : TS := fun Dn σ H =>
  ∃ Pn Z0 F0 F ρ fp E, Pn.length = pin ∧ StOk K B Pn Z0 F0 F H σ ρ fp ∧ g E ρ ∧ Links K B Pn Z0 F0 mr E Dn
/-- an expression that may change what the names own -/
def tDM (K : PySem.W.Frag) (B : List Addr) (pin : Nat) (m : Mode) (f : FM) : TE := fun σ H Q =>
  ∃ Pn Z0 F0 F ρ fp R, Pn.length = pin ∧ StOk K B Pn Z0 F0 F H σ ρ fp ∧ f ρ R ∧
    ∀ F' H' ρ' fp' v d f', StOk K B Pn Z0 F0 F' H' σ ρ' fp' → Val K m B F' H' v d f' → Apart B Z0 F' fp' f' → R d ρ' → Q v H'
abbrev DS (X : Cx) (B : List Addr) (st : Stmt) (pin : Nat) (mr : Mode) (g : FS) : Prop := PS X st (tDS X.K B pin mr g)
abbrev DSs (X : Cx) (B : List Addr) (st : List Stmt) (pin : Nat) (mr : Mode) (g : FS) : Prop := PSs X st (tDS X.K B pin mr g)
abbrev DM (X : Cx) (B : List Addr) (e : Expr) (pin : Nat) (m : Mode) (f : FM) : Prop := PE X e (tDM X.K B pin m f)
abbrev mOf (f : FE) : FM := fun ρ R => f ρ fun d => R d ρ

section
variable {K : PySem.W.Frag} {B A fp : List Addr} {Pn : List V} {Z0 F0 F F' H H' : Hp} {σ : L2.St} {ρ : Env} {m : Mode} {n : Nat}
theorem tDM_of {pin : Nat} {f : FE} {Q : VK} (h : tDM K B pin m (mOf f) σ H Q) : tD K B m f σ H Q := by
  obtain ⟨Pn, Z0, F0, F, ρ, fp, R, _, S, hf, k⟩ := h
  refine ⟨F, ρ, fp, _, S.base, hf, fun F' H' v d f' s hv ho hn hR => k F' H' ρ fp v d f' (S.step s fun a h => (by cases h)) hv ⟨fun a ha => ?_, hn⟩ hR⟩
  obtain ⟨h1, h2, h3⟩ := ho a ha
  have hz : H a = none := h1.elim (fun h => by cases h) id
  refine ⟨h2, h3, ?_, fun hm => ?_⟩
  · cases q : Z0 a with
    | none => rfl
    | some o => rw [S.z a o q] at hz; cases hz
  · obtain ⟨o, e, _⟩ := S.own.there a hm
    rw [hz] at e; cases e
theorem dm_of {X : Cx} {e : Expr} {pin : Nat} {f : FE} (h : DE X B e m f) : DM X B e pin m (mOf f) := PE.imp h fun _ _ _ q => tDM_of q
theorem nd_comm {α : Type} {a b : List α} (h : (a ++ b).Nodup) : (b ++ a).Nodup := by
  obtain ⟨h1, h2, h3⟩ := List.nodup_append.mp h
  exact List.nodup_append.mpr ⟨h2, h1, fun x hx y hy e => h3 y hy x hx e.symm⟩
theorem OwnE.set {v : V} {d : D} {f : List Addr} (h : Own K F H n v d f) : ∀ {σ : L2.St} {ρ : Env} {fp : List Addr} {i : Nat}, OwnE K F H σ ρ fp → (fp ++ f).Nodup → i < ρ.length →
    ∃ fp', OwnE K F H (σ.set i (some v)) (ρ.set i (some (n, d))) fp' ∧ fp'.Nodup ∧ ∀ a ∈ fp', a ∈ fp ∨ a ∈ f
  | [], [], fp, i, _, _, hi => by simp at hi
  | x :: σ, none :: ρ, fp, 0, ho, nd, _ => ⟨f ++ fp, ⟨f, fp, rfl, h, ho⟩, nd_comm nd, fun a ha => (List.mem_append.mp ha).symm⟩
  | x :: σ, none :: ρ, fp, i + 1, ho, nd, hi => OwnE.set (σ := σ) (ρ := ρ) h ho nd (by simpa using hi)
  | some w :: σ, some (k, e) :: ρ, fp, 0, ⟨f1, f2, ef, h1, t⟩, nd, _ => by
    subst ef
    refine ⟨f ++ f2, ⟨f, f2, rfl, h, t⟩, ?_, fun a ha => ?_⟩
    · rw [List.append_assoc] at nd
      exact nd_comm (List.nodup_append.mp nd).2.1
    · rcases List.mem_append.mp ha with z | z
      · exact .inr z
      · exact .inl (List.mem_append_right _ z)
  | some w :: σ, some (k, e) :: ρ, fp, i + 1, ⟨f1, f2, ef, h1, t⟩, nd, hi => by
    subst ef
    rw [List.append_assoc] at nd
    obtain ⟨n1, n2, n3⟩ := List.nodup_append.mp nd
    obtain ⟨fp', o', nd', sub⟩ := OwnE.set (σ := σ) (ρ := ρ) (i := i) h t n2 (by simpa using hi)
    refine ⟨f1 ++ fp', ⟨f1, fp', rfl, h1, o'⟩, List.nodup_append.mpr ⟨n1, nd', fun a ha b hb e => ?_⟩, fun a ha => ?_⟩
    · subst e
      rcases sub a hb with z | z
      · exact n3 a ha a (List.mem_append_left _ z) rfl
      · exact n3 a ha a (List.mem_append_right _ z) rfl
    · rcases List.mem_append.mp ha with z | z
      · exact .inl (List.mem_append_left _ z)
      · rcases sub a z with z | z
        · exact .inl (List.mem_append_right _ z)
        · exact .inr z
  | _ :: _, [], _, _, h, _, _ => by cases h
  | [], _ :: _, _, _, h, _, _ => by cases h
  | none :: _, some _ :: _, _, _, h, _, _ => by cases h
/-- a name is stored -/
theorem StOk.set {v : V} {d : D} {f : List Addr} {i : Nat} (S : StOk K B Pn Z0 F0 F H σ ρ fp) (h : Own K F H n v d f) (ap : Apart B Z0 F fp f) (hi : i < ρ.length) (hp : Pn.length ≤ i) :
    ∃ fp', StOk K B Pn Z0 F0 F H (σ.set i (some v)) (ρ.set i (some (n, d))) fp' := by
  have nd : (fp ++ f).Nodup := List.nodup_append.mpr ⟨S.nd, ap.2, fun a ha b hb e => by
    subst e
    exact (ap.1 a hb).2.2.2 ha⟩
  obtain ⟨fp', o', nd', sub⟩ := OwnE.set h S.own nd hi
  refine ⟨fp', S.wf, o', nd', fun a ha => ?_, S.z, S.zB, S.f, S.fr, fun j w e => ?_⟩
  · rcases sub a ha with z | z
    · exact S.out a z
    · obtain ⟨h1, h2, h3, _⟩ := ap.1 a z
      exact ⟨h1, h2, h3⟩
  · have hj : j < Pn.length := (List.getElem?_eq_some_iff.mp e).1
    rw [List.getElem?_set_ne (by omega)]
    exact S.pn j w e
/-- a name's value is taken away -/
theorem OwnE.take {d : D} : ∀ {σ : L2.St} {ρ : Env} {fp : List Addr} {i : Nat}, OwnE K F H σ ρ fp → fp.Nodup → GK.slot ρ i = some (n, d) →
    ∃ v f fp', σ[i]? = some (some v) ∧ Own K F H n v d f ∧ OwnE K F H σ (ρ.set i none) fp' ∧ (fp' ++ f).Nodup ∧ ∀ a ∈ fp' ++ f, a ∈ fp
  | [], [], fp, i, _, _, e => by cases e
  | x :: σ, none :: ρ, fp, 0, ho, nd, e => by cases e
  | x :: σ, none :: ρ, fp, i + 1, ho, nd, e => OwnE.take (σ := σ) (ρ := ρ) (i := i) ho nd e
  | some w :: σ, some (k, e) :: ρ, fp, 0, ⟨f1, f2, ef, h1, t⟩, nd, q => by
    subst ef
    cases q
    exact ⟨w, f1, f2, rfl, h1, t, nd_comm nd, fun a ha => List.mem_append.mpr (List.mem_append.mp ha).symm⟩
  | some w :: σ, some (k, e) :: ρ, fp, i + 1, ⟨f1, f2, ef, h1, t⟩, nd, q => by
    subst ef
    obtain ⟨n1, n2, n3⟩ := List.nodup_append.mp nd
    obtain ⟨v, f, fp', e1, e2, e3, e4, e5⟩ := OwnE.take (σ := σ) (ρ := ρ) (i := i) t n2 q
    refine ⟨v, f, f1 ++ fp', e1, e2, ⟨f1, fp', rfl, h1, e3⟩, ?_, fun a ha => ?_⟩
    · rw [List.append_assoc]
      exact List.nodup_append.mpr ⟨n1, e4, fun a ha b hb e => n3 a ha b (e5 b hb) e⟩
    · rw [List.append_assoc] at ha
      rcases List.mem_append.mp ha with z | z
      · exact List.mem_append_left _ z
      · exact List.mem_append_right _ (e5 a z)
  | _ :: _, [], _, _, h, _, _ => by cases h
  | [], _ :: _, _, _, h, _, _ => by cases h
  | none :: _, some _ :: _, _, _, h, _, _ => by cases h
theorem StOk.take {d : D} {i : Nat} (S : StOk K B Pn Z0 F0 F H σ ρ fp) (e : slot ρ i = some (n, d)) :
    ∃ v f fp', σ[i]? = some (some v) ∧ Own K F H n v d f ∧ StOk K B Pn Z0 F0 F H σ (ρ.set i none) fp' ∧ Apart B Z0 F fp' f ∧ ∀ a ∈ fp' ++ f, a ∈ fp := by
  obtain ⟨v, f, fp', e1, e2, e3, e4, e5⟩ := S.own.take S.nd e
  obtain ⟨n1, n2, n3⟩ := List.nodup_append.mp e4
  refine ⟨v, f, fp', e1, e2, ⟨S.wf, e3, n1, fun a ha => S.out a (e5 a (List.mem_append_left _ ha)), S.z, S.zB, S.f, S.fr, S.pn⟩, ⟨fun a ha => ?_, n2⟩, e5⟩
  obtain ⟨h1, h2, h3⟩ := S.out a (e5 a (List.mem_append_right _ ha))
  exact ⟨h1, h2, h3, fun z => n3 a z a ha rfl⟩
/-- what is owned is frozen: its addresses go to what may be read -/
theorem StOk.frzV {v : V} {d : D} {f : List Addr} (S : StOk K B Pn Z0 F0 F H σ ρ fp) (h : Own K F H n v d f) (ap : Apart B Z0 F fp f) : ∃ F', StOk K B Pn Z0 F0 F' H σ ρ fp ∧ R K F' v d ∧ Step B f F H F' H := by
  have sF : Same F (fun a => if a ∈ f then H a else F a) := fun a u e => by
    show (if a ∈ f then H a else F a) = some u
    by_cases ha : a ∈ f
    · rw [(ap.1 a ha).1] at e; cases e
    · rw [if_neg ha]; exact e
  have s : Step B f F H (fun a => if a ∈ f then H a else F a) H := ⟨fun _ _ _ h => h, sF, fun a u e => by
      by_cases ha : a ∈ f
      · exact .inr (.inr (.inr ha))
      · rw [if_neg ha] at e; exact .inl e, ⟨fun a u e => by
      by_cases ha : a ∈ f
      · rw [if_pos ha] at e
        obtain ⟨o, eo, mu⟩ := h.there a ha
        rw [eo] at e; cases e
        exact rdH_of (ap.1 a ha).2.1 eo (mut_er mu)
      · rw [if_neg ha] at e; exact S.wf.sub a u e, S.wf.lock, S.wf.bag⟩⟩
  refine ⟨_, S.step s (fun a ha => ⟨(ap.1 a ha).2.2.2, (ap.1 a ha).2.2.1⟩), h.toR sF fun a ha o e _ => ?_, s⟩
  show (if a ∈ f then H a else F a) = some o
  rw [if_pos ha]; exact e
/-- .. as a name's value -/
def frzE : Env → Nat → Env
  | [], _ => []
  | some (_, d) :: r, 0 => some (0, d) :: r
  | none :: r, 0 => none :: r
  | o :: r, i + 1 => o :: frzE r i
theorem frzE_set : ∀ {ρ : Env} {i : Nat} {d : D}, slot ρ i = some (n, d) → frzE ρ i = (ρ.set i none).set i (some (0, d))
  | [], i, d, e => by cases e
  | o :: r, 0, d, e => by cases e; rfl
  | o :: r, i + 1, d, e => by
    have ih := frzE_set (ρ := r) (i := i) (d := d) e
    cases o <;> exact congrArg (List.cons _) ih
theorem frzE_none : ∀ {ρ : Env} {i : Nat}, slot ρ i = none → frzE ρ i = ρ
  | [], i, e => rfl
  | none :: r, 0, e => rfl
  | some p :: r, 0, e => by cases e
  | none :: r, i + 1, e => congrArg (List.cons _) (frzE_none (ρ := r) (i := i) e)
  | some p :: r, i + 1, e => congrArg (List.cons _) (frzE_none (ρ := r) (i := i) e)
theorem slot_lt : ∀ {ρ : Env} {i : Nat} {p : Nat × D}, slot ρ i = some p → i < ρ.length
  | [], i, p, e => by cases e
  | o :: r, 0, p, e => Nat.succ_pos _
  | o :: r, i + 1, p, e => Nat.succ_lt_succ (slot_lt (ρ := r) e)
theorem set_self {α : Type} {x : α} : ∀ {l : List α} {i : Nat}, l[i]? = some x → l.set i x = l
  | [], i, e => rfl
  | y :: l, 0, e => by cases e; rfl
  | y :: l, i + 1, e => congrArg (List.cons y) (set_self (l := l) (i := i) e)
theorem OwnE.set0 {v : V} {d : D} (h : R K F v d) : ∀ {σ : L2.St} {ρ : Env} {fp : List Addr} {i : Nat}, OwnE K F H σ ρ fp → σ[i]? = some (some v) → GK.slot ρ i = none → OwnE K F H σ (ρ.set i (some (0, d))) fp
  | [], [], fp, i, h, e, _ => by simp at e
  | x :: σ, none :: ρ, fp, 0, ho, e, _ => by
    have e' : x = some v := Option.some.inj e
    subst e'
    exact ⟨[], fp, rfl, ⟨h, rfl⟩, ho⟩
  | x :: σ, none :: ρ, fp, i + 1, ho, e, q => OwnE.set0 (σ := σ) (ρ := ρ) (i := i) h ho e q
  | some w :: σ, some (k, e) :: ρ, fp, 0, _, _, q => by cases q
  | some w :: σ, some (k, e) :: ρ, fp, i + 1, ⟨f1, f2, ef, h1, t⟩, q, z => ⟨f1, f2, ef, h1, OwnE.set0 (σ := σ) (ρ := ρ) (i := i) h t q z⟩
  | _ :: _, [], _, _, h, _, _ => by cases h
  | [], _ :: _, _, _, h, _, _ => by cases h
  | none :: _, some _ :: _, _, _, h, _, _ => by cases h
theorem slot_unset : ∀ {ρ : Env} {i : Nat}, slot (ρ.set i none) i = none
  | [], i => rfl
  | o :: r, 0 => rfl
  | o :: r, i + 1 => slot_unset (ρ := r)
theorem StOk.frz (S : StOk K B Pn Z0 F0 F H σ ρ fp) (i : Nat) : ∃ F' fp', StOk K B Pn Z0 F0 F' H σ (frzE ρ i) fp' := by
  cases e : slot ρ i with
  | none => rw [frzE_none e]; exact ⟨F, fp, S⟩
  | some p =>
    obtain ⟨n, d⟩ := p
    obtain ⟨v, f, fp', e1, e2, e3, e4, _⟩ := S.take e
    obtain ⟨F', S', r, _⟩ := e3.frzV e2 e4
    rw [frzE_set e]
    exact ⟨F', fp', S'.wf, S'.own.set0 r e1 slot_unset, S'.nd, S'.out, S'.z, S'.zB, S'.f, S'.fr, S'.pn⟩
end

/-! ### statements -/
section
variable {X : Cx} {st : Stmt} {sts : List Stmt} {e : Expr} {pin : Nat} {mr m : Mode} {g g' : FS} {f : FM} {pos : Pos}
theorem Links.seq {K : PySem.W.Frag} {B : List Addr} {Pn : List V} {Z0 F0 : Hp} {E : DEnds} {Dn : Ends} (hp : Pn.length = pin) (L : Links K B Pn Z0 F0 mr E Dn) : Links K B Pn Z0 F0 mr { E with nx := g E } { Dn with nx := tDS K B pin mr g Dn } :=
  ⟨fun F H σ ρ fp S hg => ⟨Pn, Z0, F0, F, ρ, fp, E, hp, S, hg, L⟩, L.rt, L.bk, L.ct⟩
abbrev gSeq (g g' : FS) : FS := fun E ρ => g { E with nx := g' E } ρ
theorem ds_cons (h1 : DS X B st pin mr g) (h2 : DSs X B sts pin mr g') : DSs X B (st :: sts) pin mr (gSeq g g') :=
  PSs.imp (pss_cons h1 h2) fun Dn σ H ⟨Pn, Z0, F0, F, ρ, fp, E, hp, S, hg, L⟩ => ⟨Pn, Z0, F0, F, ρ, fp, _, hp, S, hg, L.seq hp⟩
theorem ds_one (h1 : DS X B st pin mr g) : DSs X B [st] pin mr g := pss_one h1
theorem ds_nil : DSs X B [] pin mr (fun E ρ => E.nx ρ) := PSs.imp pss_nil fun Dn σ H ⟨Pn, Z0, F0, F, ρ, fp, E, hp, S, hg, L⟩ => L.nx F H σ ρ fp S hg
theorem ds_pass : DS X B (.Pass pos) pin mr (fun E ρ => E.nx ρ) := PS.imp ps_pass fun Dn σ H ⟨Pn, Z0, F0, F, ρ, fp, E, hp, S, hg, L⟩ => L.nx F H σ ρ fp S hg
theorem ds_break : DS X B (.Break pos) pin mr (fun E ρ => E.bk ρ) := PS.imp ps_break fun Dn σ H ⟨Pn, Z0, F0, F, ρ, fp, E, hp, S, hg, L⟩ => L.bk F H σ ρ fp S hg
theorem ds_continue : DS X B (.Continue pos) pin mr (fun E ρ => E.ct ρ) := PS.imp ps_continue fun Dn σ H ⟨Pn, Z0, F0, F, ρ, fp, E, hp, S, hg, L⟩ => L.ct F H σ ρ fp S hg
/-- a name is frozen ahead of a statement -/
theorem ds_frz (i : Nat) (h : DS X B st pin mr g) : DS X B st pin mr (fun E ρ => g E (frzE ρ i)) :=
  PS.imp h fun Dn σ H ⟨Pn, Z0, F0, F, ρ, fp, E, hp, S, hg, L⟩ => by
    obtain ⟨F', fp', S'⟩ := S.frz i
    exact ⟨Pn, Z0, F0, F', _, fp', E, hp, S', hg, L⟩
/-- x = e -/
abbrev gSet (i n : Nat) (f : FM) : FS := fun E ρ => i < ρ.length ∧ f ρ fun d ρ' => E.nx (ρ'.set i (some (n, d)))
theorem ds_setM (i n : Nat) {x : Str} {pos' : Pos} (hN : X.N.Nodup) (hi : X.N[i]? = some x) (hx : Loc X.env.scope x) (hp : pin ≤ i) (he : DM X B e pin (.own n) f) (hs : swapsWith e (some (.Name x pos')) pos.line X.env = pure false := by rfl)
    (hf : X.fn x = true ∨ X.env.scope.names.lookup x = some .local := by first | exact .inl rfl | exact .inr rfl | assumption) : DS X B (.Assign [.Name x pos'] e pos) pin mr (fun E ρ => f ρ fun d ρ' => i < ρ'.length ∧ E.nx (ρ'.set i (some (n, d)))) :=
  PS.imp (ps_set hN hi hx he hs hf) fun Dn σ H ⟨Pn, Z0, F0, F, ρ, fp, E, hpl, S, hg, L⟩ => ⟨Pn, Z0, F0, F, ρ, fp, _, hpl, S, hg, fun F' H' ρ' fp' v d f' S' hv ap hR => by
    obtain ⟨fp2, S2⟩ := S'.set hv ap hR.1 (by omega)
    exact L.nx F' H' _ _ fp2 S2 hR.2⟩
/-- e; its value dropped -/
theorem ds_exprM (he : DM X B e pin m f) (hs : swapsWith e none pos.line X.env = pure false := by rfl) : DS X B (.Expr e pos) pin mr (fun E ρ => f ρ fun _ ρ' => E.nx ρ') :=
  PS.imp (ps_expr he hs) fun Dn σ H ⟨Pn, Z0, F0, F, ρ, fp, E, hpl, S, hg, L⟩ => ⟨Pn, Z0, F0, F, ρ, fp, _, hpl, S, hg, fun F' H' ρ' fp' v d f' S' hv ap hR => L.nx F' H' σ ρ' fp' S' hR⟩
/-- return e -/
theorem ds_retM (he : DM X B e pin mr f) : DS X B (.Return (some e) pos) pin mr (fun E ρ => f ρ E.rt) :=
  PS.imp (ps_ret he) fun Dn σ H ⟨Pn, Z0, F0, F, ρ, fp, E, hpl, S, hg, L⟩ => ⟨Pn, Z0, F0, F, ρ, fp, _, hpl, S, hg, fun F' H' ρ' fp' v d f' S' hv ap hR => L.rt F' H' σ ρ' fp' v d f' S' hv ap hR⟩
theorem ds_retN : DS X B (.Return none pos) pin mr (fun E ρ => E.rt .non ρ) :=
  PS.imp ps_retN fun Dn σ H ⟨Pn, Z0, F0, F, ρ, fp, E, hpl, S, hg, L⟩ => L.rt F H σ ρ fp .non .non [] S (Val.atom rfl fun _ => .non) ⟨fun a h => (by cases h), List.nodup_nil⟩ hg
/-- the value of a name, taken away from it -/
def mTake (i n : Nat) : FM := fun ρ R => match slot ρ i with
  | some (k, d) => k = n ∧ R d (ρ.set i none)
  | none => False
theorem dm_take (i n : Nat) {x : Str} (hN : X.N[i]? = some x := by rfl) (hv : Vis X.env.scope x := by first | exact Or.inl rfl | exact Or.inr (Or.inl rfl) | exact Or.inr (Or.inr rfl)) (hd : (x == ("__debug__" : Str)) = false := by decide)
    (hcd : (x == ("__classdict__" : Str)) = false := by decide) : DM X B (.Name x pos) pin (.own n) (mTake i n) := PE.imp (pe_var hN hv hd hcd) fun σ H Q ⟨Pn, Z0, F0, F, ρ, fp, R, hpl, S, hf, k⟩ => by
  unfold mTake at hf
  cases q : slot ρ i with
  | none => rw [q] at hf; exact hf.elim
  | some p =>
    obtain ⟨n', d⟩ := p
    rw [q] at hf
    obtain ⟨rfl, hR⟩ := hf
    obtain ⟨v, f, fp', e1, e2, e3, e4, _⟩ := S.take q
    exact ⟨v, e1, k F H _ fp' v d f e3 e2 e4 hR⟩
/-- if -/
theorem ds_if {c : Expr} {a b : List Stmt} {fc : FT} (hc : DT X B c fc) (ha : DSs X B a pin mr g) (hb : DSs X B b pin mr g') : DS X B (.If c a b pos) pin mr (fun E ρ => fc ρ fun t => if t = true then g E ρ else g' E ρ) :=
  PS.imp (ps_if hc ha hb) fun Dn σ H ⟨Pn, Z0, F0, F, ρ, fp, E, hpl, S, hg, L⟩ => ⟨F, ρ, fp, _, S.base, hg, fun F' H' t s ht => by
    have S' := S.step s fun a h => (by cases h)
    cases t with
    | true => exact ⟨Pn, Z0, F0, F', ρ, fp, E, hpl, S', ht, L⟩
    | false => exact ⟨Pn, Z0, F0, F', ρ, fp, E, hpl, S', by simpa using ht, L⟩⟩
end
end GK

namespace GK
open PySem PySem.Spec PyProof.Rows L2

/-! ### while -/
section
variable {X : Cx} {pin : Nat} {mr : Mode} {g gb : FS} {fc : FT} {pos : Pos}
def gWhile (fc : FT) (gb : FS) : FS := fun E ρ => ∃ W : Nat → Env → Prop, (∃ m, W m ρ) ∧ ∀ m ρ, W m ρ → fc ρ fun t => if t = true then gb { E with nx := fun ρ' => ∃ m', m' < m ∧ W m' ρ', ct := fun ρ' => ∃ m', m' < m ∧ W m' ρ', bk := E.nx } ρ else E.nx ρ
theorem ds_while {c : Expr} {body : List Stmt} (hp : PassesOwn (model X.prog X.w) X.A X.env X.xe) (hc : DT X B c fc) (hb : DSs X B body pin mr gb) : DS X B (.While c body [] pos) pin mr (gWhile fc gb) :=
  PS.imp (ps_while hp hc hb) fun Dn σ H ⟨Pn, Z0, F0, F, ρ, fp, E, hpl, S, ⟨W, ⟨m0, w0⟩, turn⟩, L⟩ => by
    refine ⟨fun m σ H => ∃ F ρ fp, StOk X.K B Pn Z0 F0 F H σ ρ fp ∧ W m ρ, ⟨m0, F, ρ, fp, S, w0⟩, ?_⟩
    rintro m σ H ⟨F, ρ, fp, S, w⟩
    refine ⟨F, ρ, fp, _, S.base, turn m ρ w, fun F' H' t s ht => ?_⟩
    have S' := S.step s fun a h => (by cases h)
    cases t with
    | true =>
      dsimp only at ht ⊢
      rw [if_pos rfl] at ht ⊢
      refine ⟨fun σ' H' => ∃ F ρ fp, StOk X.K B Pn Z0 F0 F H' σ' ρ fp ∧ ∃ m', m' < m ∧ W m' ρ, fun σ' H' ⟨F, ρ, fp, S, m', hm, w'⟩ => ⟨m', hm, F, ρ, fp, S, w'⟩, ?_⟩
      exact ⟨Pn, Z0, F0, F', ρ, fp, _, hpl, S', ht, ⟨fun F H σ ρ fp S h => ⟨F, ρ, fp, S, h⟩, L.rt, L.nx, fun F H σ ρ fp S h => ⟨F, ρ, fp, S, h⟩⟩⟩
    | false =>
      dsimp only at ht ⊢
      rw [if_neg Bool.false_ne_true] at ht ⊢
      exact L.nx F' H' σ ρ fp S' ht
end

/-! ### what is walked -/
/-- what stands and is nobody's -/
def prot (B fp : List Addr) (H : Hp) : Hp := fun a => if a ∈ fp ∨ a ∈ B then none else H a
/-- the iterator gives these things, one by one, wherever what stood stands -/
def ItD (K : PySem.W.Frag) (B : List Addr) (Z F1 : Hp) (J : It) (xs : List D) : Prop := ∀ (i : Nat) (F H : Hp), WF B F H → Same Z H → Same F1 F →
  (i < xs.length → J.go i H ∧ ∀ x H', J.yld i H x H' → ∃ F' d, xs[i]? = some d ∧ Step B [] F H F' H' ∧ R K F' x d) ∧ (xs.length ≤ i → J.stop i H)
abbrev FI := Env → (List D → Prop) → Prop
def tDI (K : PySem.W.Frag) (B : List Addr) (fi : FI) : TI := fun σ H R => ∃ F ρ fp Rx, StOk K B [] noH noH F H σ ρ fp ∧ fi ρ Rx ∧
  ∀ J F1 H1 xs, Step B [] F H F1 H1 → ItD K B (prot B fp H1) F1 J xs → Rx xs → R J H1
abbrev DI (X : Cx) (B : List Addr) (tg iter : Expr) (fi : FI) : Prop := PI X tg iter (tDI X.K B fi)
theorem PI.imp {X : Cx} {tg iter : Expr} {t t' : TI} (h : PI X tg iter t) (k : ∀ σ H R, t' σ H R → t σ H R) : PI X tg iter t' := ⟨fun pins s σ H R I q => h.run pins s σ H R I (k σ H R q)⟩
/-- a target: what the names are behind it -/
structure DG (X : Cx) (pin : Nat) (tg : Expr) (t : D → Env → Option Env) : Prop where
  ok : ∃ g : TG, PG X tg g ∧ ∀ (B : List Addr) (Pn : List V) (Z0 F0 F H : Hp) (σ : L2.St) (ρ ρ' : Env) (fp : List Addr) (v : V) (d : D), Pn.length = pin → StOk X.K B Pn Z0 F0 F H σ ρ fp → R X.K F v d → t d ρ = some ρ' →
    ∀ Q : L2.St → Hp → Prop, (∀ σ' fp', StOk X.K B Pn Z0 F0 F H σ' ρ' fp' → Q σ' H) → g v σ H Q
section
variable {K : PySem.W.Frag} {B fp : List Addr} {F F1 H H1 : Hp}
theorem prot_same : Same (prot B fp H) H := fun a o e => by
  unfold prot at e
  split at e
  · cases e
  · exact e
theorem prot_in {a : Addr} (h : a ∈ fp ∨ a ∈ B) : prot B fp H a = none := by unfold prot; rw [if_pos h]
theorem prot_out {a : Addr} (h : a ∉ fp) (h' : a ∉ B) : prot B fp H a = H a := by unfold prot; rw [if_neg (by simp [h, h'])]
/-- what may be read is nobody's -/
theorem StOk.protF {Pn : List V} {Z0 F0 : Hp} {σ : L2.St} {ρ : Env} (S : StOk K B Pn Z0 F0 F H σ ρ fp) {a : Addr} {u : HO} (h : F a = some u) : ∃ x, prot B fp H a = some x ∧ erO x = u := by
  obtain ⟨hb, x, e, n⟩ := rdH_some (S.wf.sub a u h)
  refine ⟨x, ?_, n⟩
  rw [prot_out (fun hf => ?_) hb]
  · exact e
  · rw [(S.out a hf).1] at h; cases h
/-- the state, with all that is nobody's kept from here on -/
theorem StOk.rebase {Pn : List V} {Z0 F0 : Hp} {σ : L2.St} {ρ : Env} (S : StOk K B Pn Z0 F0 F H σ ρ fp) : StOk K B Pn (prot B fp H) F F H σ ρ fp :=
  ⟨S.wf, S.own, S.nd, fun a ha => ⟨(S.out a ha).1, (S.out a ha).2.1, prot_in (.inl ha)⟩, prot_same, fun a h => prot_in (.inr h), fun _ _ h => h, fun a u h => .inl h, S.pn⟩
theorem StOk.zp {Pn : List V} {Z0 F0 : Hp} {σ : L2.St} {ρ : Env} (S : StOk K B Pn Z0 F0 F H σ ρ fp) : Same Z0 (prot B fp H) := fun a o e => by
  have h1 : a ∉ fp := fun h => by rw [(S.out a h).2.2] at e; cases e
  have h2 : a ∉ B := fun h => by rw [S.zB a h] at e; cases e
  rw [prot_out h1 h2]; exact S.z a o e
theorem Apart.unbase {Z Z' : Hp} {f : List Addr} (s : Same Z Z') (ap : Apart B Z' F fp f) : Apart B Z F fp f :=
  ⟨fun a ha => ⟨(ap.1 a ha).1, (ap.1 a ha).2.1, s.free (ap.1 a ha).2.2.1, (ap.1 a ha).2.2.2⟩, ap.2⟩
/-- .. and back -/
theorem StOk.unbase {Pn : List V} {Z0 F0 F' H' : Hp} {σ σ' : L2.St} {ρ ρ' : Env} {fp' : List Addr} (S : StOk K B Pn Z0 F0 F H σ ρ fp) (T : StOk K B Pn (prot B fp H) F F' H' σ' ρ' fp') : StOk K B Pn Z0 F0 F' H' σ' ρ' fp' := by
  have zp := S.zp
  refine ⟨T.wf, T.own, T.nd, fun a ha => ⟨(T.out a ha).1, (T.out a ha).2.1, ?_⟩, fun a o e => T.z a o (zp a o e), S.zB, fun a u e => T.f a u (S.f a u e), fun a u e => ?_, T.pn⟩
  · cases q : Z0 a with
    | none => rfl
    | some o =>
      have := (T.out a ha).2.2
      rw [zp a o q] at this; cases this
  · rcases T.fr a u e with z | z | z
    · exact S.fr a u z
    · right; left
      cases q : Z0 a with
      | none => rfl
      | some o => rw [zp a o q] at z; cases z
    · exact .inr (.inr z)
end

/-- the turns of a for -/
def forD (t : D → Env → Option Env) (gb : FS) : List D → FS
  | [] => fun E ρ => E.nx ρ
  | x :: xs => fun E ρ => ∃ ρ', t x ρ = some ρ' ∧ gb { E with nx := fun ρ' => forD t gb xs E ρ', ct := fun ρ' => forD t gb xs E ρ', bk := E.nx } ρ'
def gFor (fi : FI) (t : D → Env → Option Env) (gb : FS) : FS := fun E ρ => fi ρ fun xs => forD t gb xs E ρ
section
variable {X : Cx} {pin : Nat} {mr : Mode} {g gb : FS} {fi : FI} {t : D → Env → Option Env} {pos : Pos}
theorem ds_for {tg iter : Expr} {body : List Stmt} (hp : PassesOwn (model X.prog X.w) X.A X.env X.xe) (hc : X.calm = true) (hi : DI X B tg iter fi) (hg : DG X pin tg t) (hb : DSs X B body pin mr gb)
    (hs : ∀ x, foldedSetIterable iter X.env x = pure x := by intro _; rfl) : DS X B (.For tg iter body [] pos) pin mr (gFor fi t gb) := by
  obtain ⟨g, pg, kg⟩ := hg.ok
  refine PS.imp (ps_for hp hc hi pg hb hs) fun Dn σ H ⟨Pn, Z0, F0, F, ρ, fp, E, hpl, S, hf, L⟩ => ⟨F, ρ, fp, _, S.base, hf, fun J F1 H1 xs s1 it hx => ?_⟩
  have S1 := S.step s1 fun a h => (by cases h)
  refine ⟨fun i m σ H => ∃ F ρ fp', StOk X.K B Pn (prot B fp H1) F1 F H σ ρ fp' ∧ m = xs.length - i ∧ i ≤ xs.length ∧ forD t gb (xs.drop i) E ρ, ⟨xs.length, F1, ρ, fp, S1.rebase, rfl, Nat.zero_le _, hx⟩, ?_⟩
  rintro i m σ H ⟨F, ρ, fp', S, rfl, hi, hr⟩
  obtain ⟨k1, k2⟩ := it i F H S.wf S.z S.f
  by_cases hlt : i < xs.length
  · refine .inr ⟨(k1 hlt).1, fun σ' H' => ∃ F ρ fp', StOk X.K B Pn (prot B fp H1) F1 F H' σ' ρ fp' ∧ forD t gb (xs.drop (i + 1)) E ρ, fun σ' H' ⟨F, ρ, fp', S, h⟩ => ⟨xs.length - (i + 1), by omega, F, ρ, fp', S, rfl, hlt, h⟩, fun x H' y => ?_⟩
    obtain ⟨F2, d, ed, s2, r2⟩ := (k1 hlt).2 x H' y
    have S2 := S.step s2 fun a h => (by cases h)
    rw [List.drop_eq_getElem_cons hlt] at hr
    have ed' : xs[i] = d := Option.some.inj ((List.getElem?_eq_getElem hlt).symm.trans ed)
    rw [ed'] at hr
    obtain ⟨ρ', et, hb'⟩ := hr
    refine kg B Pn _ F1 F2 H' σ ρ ρ' fp' x d hpl S2 r2 et _ fun σ2 fp2 S3 => ?_
    exact ⟨Pn, _, F1, F2, ρ', fp2, _, hpl, S3, hb', ⟨fun F H σ ρ fp S h => ⟨F, ρ, fp, S, h⟩, fun F H σ ρ fp' v d f S hv ap h => L.rt F H σ ρ fp' v d f (S1.unbase S) hv (ap.unbase S1.zp) h,
      fun F H σ ρ fp S h => L.nx F H σ ρ fp (S1.unbase S) h, fun F H σ ρ fp S h => ⟨F, ρ, fp, S, h⟩⟩⟩
  · have e : i = xs.length := by omega
    subst e
    rw [List.drop_length] at hr
    exact .inl ⟨k2 (Nat.le_refl _), L.nx F H σ ρ fp' (S1.unbase S) hr⟩
end
end GK

namespace GK
open PySem PySem.Spec PyProof.Rows L2

/-! ### a def's promise over data: wp of the arguments and of what is wanted -/
abbrev FSpec := List D → (D → Prop) → Prop
/-- .. that may name the bag -/
abbrev BSpec := List Addr → FSpec
def spD (K : PySem.W.Frag) (m : Mode) (W : BSpec) : Sp := fun vs H Q _ => ∃ B F ds R, WF B F H ∧ RL K F vs ds ∧ W B ds R ∧ Post K B [] F H m R Q
/-- as a state -/
def envOf : List D → Env := List.map fun d => some (0, d)
def startE (N : List Str) (ds : List D) : Env := envOf ds ++ List.replicate (N.length - ds.length) none
section
variable {K : PySem.W.Frag} {F H : Hp}
theorem ownE_none : ∀ n : Nat, OwnE K F H (List.replicate n none) (List.replicate n none) []
  | 0 => rfl
  | n + 1 => ownE_none n
theorem ownE_start {vs : List V} {ds : List D} (n : Nat) : RL K F vs ds → OwnE K F H (vs.map some ++ List.replicate n none) (envOf ds ++ List.replicate n none) []
  | .nil => ownE_none n
  | .cons h t => ⟨[], [], rfl, ⟨h, rfl⟩, ownE_start n t⟩
theorem start_eq {N : List Str} {vs : List V} : start N vs = vs.map some ++ List.replicate (N.length - vs.length) none := rfl
end
/-- the ends of a def -/
abbrev DEnds.fn (R : D → Prop) : DEnds := { nx := fun _ => R .non, rt := fun d _ => R d }
section
variable {P : Program} {w : World} {K : PySem.W.Frag} {mg : Str → Option Value} {base : Heap}
/-- THE RULE for a def -/
theorem Fun_okD {x qual : Str} {st : Stmt} {f : Addr} {fd : FuncData} {N ps : List Str} {k : Nat} {m : Mode} {W : BSpec} (F : Fun K x qual st f fd) (S : FnScope N ps (defScope st)) (len : ∀ B ds R, W B ds R → ds.length = ps.length)
    (hbody : ∀ (B : List Addr) (cdv : Value) (A : Around) (outer : List PySem.Env) (s : Shared) (H : Hp) (E : XK), Room k (A.deeper (envOfC qual (defScope st) s.heap.objs.size f cdv)) →
      ∃ g, DSs (cxOf CX0 P w K mg base N qual (defScope st) f cdv A outer s H E).nox B (defBody st) 0 m g ∧ ∀ ds R, W B ds R → g (DEnds.fn R) (startE N ds)) : FnOk P w K mg base CX0 (k + 1) f fd ps (spD K m W) := by
  refine F.ok S (fun vs H Q E ⟨B, F, ds, R, w, r, hW, k⟩ => by rw [r.length]; exact len B ds R hW) fun cdv A outer s H vs Q E hr ⟨B, F, ds, R, w, r, hW, k⟩ => ?_
  obtain ⟨g, hg, hq⟩ := hbody B cdv A outer s H E hr
  refine ⟨_, hg, [], prot B [] H, F, F, startE N ds, [], DEnds.fn R, rfl, ⟨w, ?_, List.nodup_nil, fun a h => (by cases h), prot_same, fun a h => prot_in (.inr h), fun _ _ h => h, fun a u h => .inl h, fun i v e => (by simp at e)⟩, hq ds R hW, ?_⟩
  · rw [start_eq]
    unfold startE
    rw [r.length]
    exact ownE_start _ r
  have back : ∀ {F' H' : Hp} {σ' : L2.St} {ρ' : Env} {fp' : List Addr}, StOk K B [] (prot B [] H) F F' H' σ' ρ' fp' → Step B [] F H F' H' := fun {F' H' σ' ρ' fp'} T =>
    ⟨fun a o hb e => T.z a o (by rw [prot_out (by simp) hb]; exact e), T.f, fun a u e => by
      rcases T.fr a u e with z | z | z
      · exact .inl z
      · right; left
        by_cases hb : a ∈ B
        · have := T.wf.outB hb
          rw [this] at e; cases e
        · rw [prot_out (by simp) hb] at z; exact z
      · exact .inr (.inr (.inl z)), T.wf⟩
  exact ⟨fun F' H' σ' ρ' fp' T h => k F' H' .non .non [] (back T) (Val.atom rfl fun _ => .non) (fun a h => (by cases h)) List.nodup_nil h,
    fun F' H' σ' ρ' fp' v d f T hv ap h => k F' H' v d f (back T) hv (fun a ha => by
      obtain ⟨h1, h2, h3, h4⟩ := ap.1 a ha
      refine ⟨.inr ?_, h1, h2⟩
      rw [prot_out (by simp) h2] at h3; exact h3) ap.2 h,
    fun _ _ _ _ _ _ h => h.elim, fun _ _ _ _ _ _ h => h.elim⟩
end

/-! ### calls -/
theorem ValL.rl0 {K : PySem.W.Frag} {B : List Addr} {F H : Hp} {ms : List Mode} {vs : List V} {ds : List D} {fp : List Addr} (hm : ∀ m ∈ ms, m = .own 0) (h : ValL K B F H ms vs ds fp) : RL K F vs ds := (h.own hm).toRL0
theorem ValL.rd {K : PySem.W.Frag} {B : List Addr} {F H : Hp} (w : WF B F H) : ∀ {ms : List Mode} {vs : List V} {ds : List D} {fp : List Addr}, (∀ a ∈ fp, a ∉ B) → ValL K B F H ms vs ds fp → RL K (rdH B H) vs ds
  | [], [], [], _, _, h => .nil
  | m :: ms, v :: vs, d :: ds, fp, hB, ⟨f1, f2, e, h, t⟩ => .cons (h.rd w fun a ha => hB a (by rw [e]; exact List.mem_append_left _ ha)) (ValL.rd w (fun a ha => hB a (by rw [e]; exact List.mem_append_right _ ha)) t)
section
variable {K : PySem.W.Frag} {B A : List Addr} {F F' H H' : Hp} {n : Nat} {R : D → Prop} {Q : VK} {W : BSpec} {vs : List V} {ds : List D}
theorem wf_rd (w : WF B F H) : WF B (rdH B H) H := ⟨fun _ _ h => h, w.lock, w.bag⟩
/-- a call whose arguments are all that may be read -/
theorem call_all {m : Mode} (w : WF B F H) (r : RL K F vs ds) (h : W B ds R) (k : Post K B A F H m R Q) : spD K m W vs H Q fun _ _ _ => False :=
  ⟨B, F, ds, R, w, r, h, k.after (Step.refl w) fun a h => (by cases h)⟩
/-- a call whose arguments are some that others own: what comes back is flat below what is new -/
theorem call_rd (w : WF B F H) (r : RL K (rdH B H) vs ds) (h : W B ds fun d => flatN n d = true ∧ R d) (k : Post K B A F H (.own n) R Q) : spD K (.own n) W vs H Q fun _ _ _ => False := by
  refine ⟨B, rdH B H, ds, _, wf_rd w, r, h, fun F' H' v d fp s hv ho hn hR => ?_⟩
  have hv : Own K F' H' n v d fp := hv
  have s2 : Step B A F H F H' := ⟨s.same, fun _ _ h => h, fun _ _ h => .inl h, ⟨fun a u e => rdH_same s.same a u (w.sub a u e), s.wf.lock, s.wf.bag⟩⟩
  have ht := hv.there
  refine k _ H' v d fp s2.addT (Own.flat (fun a vs e => addT_tup s2.wf.sub (s.wf.sub _ _ e)) hR.1 hv) (fun a ha => ?_) hn hR.2
  obtain ⟨h1, h2, h3⟩ := ho a ha
  refine ⟨h1.elim (fun h => by cases h) .inr, ?_, h3⟩
  have hz : H a = none := h1.elim (fun h => by cases h) id
  obtain ⟨o, e, mu⟩ := ht a ha
  cases q : addT F (rdH B H') a with
  | none => rfl
  | some u =>
    exfalso
    rcases addT_cases q with z | ⟨z, t⟩
    · rw [F_none w hz] at z; cases z
    · obtain ⟨_, x, ex, er⟩ := rdH_some z
      rw [e] at ex; cases ex
      rw [mut_er mu] at er; subst er
      cases o <;> first | exact mu | exact t
end
/-- is any argument another's -/
abbrev gCall (W : FSpec) (xs : List D) (R : D → Prop) : Prop := W xs R
abbrev gCallR (n : Nat) (W : FSpec) (xs : List D) (R : D → Prop) : Prop := W xs fun d => flatN n d = true ∧ R d
section
variable {X : Cx} {k : Nat} {fa C : Addr} {fd : FuncData} {ps : List Str} {ds : List Value} {dvs : List V} {x : Str} {p pos apos : Pos} {e o : Expr} {es : List Expr} {m mo : Mode} {ms : List Mode} {fs : FA} {fo : FE} {W : BSpec} {dd : List D} {n : Nat}
/-- what a call of a def wants of its defaults: they are data of the written part -/
abbrev Dflt (K : PySem.W.Frag) (dvs : List V) (dd : List D) : Prop := ∀ F, RL K F dvs dd
theorem de_call (F : FnOk X.prog X.w X.K X.mg X.base CX0 k fa fd ps (spD X.K m W)) (hr : Room k X.A) (hg : Gl X x) (hm : X.mg x = some (.ref fa)) (hk : PySem.W.keepIn X.K (.ref fa) = true) (hb : Binds X.K fd ps ds) (hd : Vals dvs ds) (hdd : Dflt X.K dvs dd)
    (ha : DA X B (e :: es) ms fs) (hms : ∀ m ∈ ms, m = .own 0 := by simp) (hdb : (x == ("__debug__" : Str)) = false := by decide) (he : starEach (e :: es) X.env = (false, eval e X.env) :: starEach es X.env := by rfl) (hpl : (backTo pos (starEach es X.env)).any (·.1) = false := by rfl) :
    DE X B (.Call (.Name x p) (e :: es) [] pos) m (fArgs (fun xs R => W B (xs ++ dd) R) fs) :=
  PE.imp (pe_call F hr hg hm hk hb hd pass0 ha hdb he hpl) fun σ H Q ⟨F, ρ, fp, R, S, hf, k⟩ => ⟨F, ρ, fp, _, S, hf, fun F1 H1 vs xs fp1 s1 hv o1 n1 hW =>
    call_all s1.wf ((hv.rl0 hms).append (hdd F1)) hW (k.after s1 (A1 := fp1) fun a ha => (o1 a ha).1)⟩
theorem de_callR (F : FnOk X.prog X.w X.K X.mg X.base CX0 k fa fd ps (spD X.K (.own n) W)) (hr : Room k X.A) (hg : Gl X x) (hm : X.mg x = some (.ref fa)) (hk : PySem.W.keepIn X.K (.ref fa) = true) (hb : Binds X.K fd ps ds) (hd : Vals dvs ds) (hdd : Dflt X.K dvs dd)
    (ha : DA X B (e :: es) ms fs) (hdb : (x == ("__debug__" : Str)) = false := by decide) (he : starEach (e :: es) X.env = (false, eval e X.env) :: starEach es X.env := by rfl) (hpl : (backTo pos (starEach es X.env)).any (·.1) = false := by rfl) :
    DE X B (.Call (.Name x p) (e :: es) [] pos) (.own n) (fArgs (fun xs R => W B (xs ++ dd) fun d => flatN n d = true ∧ R d) fs) :=
  PE.imp (pe_call F hr hg hm hk hb hd pass0 ha hdb he hpl) fun σ H Q ⟨F, ρ, fp, R, S, hf, k⟩ => ⟨F, ρ, fp, _, S, hf, fun F1 H1 vs xs fp1 s1 hv o1 n1 hW =>
    call_rd s1.wf ((hv.rd s1.wf fun a ha => (o1 a ha).2.2).append (hdd _)) hW (k.after s1 (A1 := fp1) fun a ha => (o1 a ha).1)⟩
theorem de_call0 (F : FnOk X.prog X.w X.K X.mg X.base CX0 k fa fd ps (spD X.K m W)) (hr : Room k X.A) (hg : Gl X x) (hm : X.mg x = some (.ref fa)) (hk : PySem.W.keepIn X.K (.ref fa) = true) (hb : Binds X.K fd ps ds) (hd : Vals dvs ds) (hdd : Dflt X.K dvs dd)
    (hdb : (x == ("__debug__" : Str)) = false := by decide) : DE X B (.Call (.Name x p) [] [] pos) m (fun _ R => W B dd R) :=
  PE.imp (pe_call0 F hr hg hm hk hb hd pass0 hdb) fun σ H Q ⟨F, ρ, fp, R, S, hf, k⟩ => by
    have := call_all (K := X.K) (vs := [] ++ dvs) (ds := dd) S.wf (hdd F) hf k
    exact this
/-- o.m(e, ..) : the object is one that may be read -/
theorem lookup_none {fs : List (Str × V)} {es : List (Str × D)} {m : Str} (hk : fs.map (·.1) = es.map (·.1)) (h : es.lookup m = none) : fs.lookup m = none := by
  induction fs generalizing es with
  | nil => rfl
  | cons p r ih =>
    cases es with
    | nil => cases hk
    | cons q s =>
      rw [List.map_cons, List.map_cons] at hk
      injection hk with h1 h2
      obtain ⟨pk, pv⟩ := p
      obtain ⟨qk, qv⟩ := q
      dsimp only at h1
      subst h1
      rw [List.lookup_cons] at h ⊢
      cases hb : m == pk with
      | true => rw [hb] at h; cases h
      | false => rw [hb] at h; exact ih h2 h
theorem lookup_some {fs : List (Str × V)} {es : List (Str × D)} {m : Str} {d : D} (hk : fs.map (·.1) = es.map (·.1)) (h : es.lookup m = some d) : ∃ (i : Nat) (v : V), fs.lookup m = some v ∧ (fs.map (·.2))[i]? = some v ∧ (es.map (·.2))[i]? = some d := by
  induction fs generalizing es with
  | nil =>
    cases es with
    | nil => cases h
    | cons q s => cases hk
  | cons p r ih =>
    cases es with
    | nil => cases hk
    | cons q s =>
      rw [List.map_cons, List.map_cons] at hk
      injection hk with h1 h2
      obtain ⟨pk, pv⟩ := p
      obtain ⟨qk, qv⟩ := q
      dsimp only at h1
      subst h1
      rw [List.lookup_cons] at h ⊢
      cases hb : m == pk with
      | true =>
        rw [hb] at h
        exact ⟨0, pv, rfl, rfl, by simpa using h⟩
      | false =>
        rw [hb] at h
        obtain ⟨i, v, e1, e2, e3⟩ := ih h2 h
        exact ⟨i + 1, v, e1, by simpa using e2, by simpa using e3⟩
/-- an instance of the class, without an attribute of the method's name -/
def isObjD (C : Addr) (m : Str) : D → Prop
  | .obj C' es => C' = C ∧ es.lookup m = none
  | _ => False
theorem isObjD.inv {C : Addr} {m : Str} : ∀ {d : D}, isObjD C m d → ∃ es, d = .obj C es ∧ es.lookup m = none
  | .obj C' es, h => ⟨es, by rw [h.1], h.2⟩
  | .non, h | .bl _, h | .int _, h | .str _, h | .raw _, h | .tup _, h | .lst _, h | .dK _, h | .dT _, h => h.elim
theorem de_meth {mt : Str} {pl : Sem Bool} (ho : DE X B o (.own 0) fo) (c : Cls X.K C) (hm : Meth X.K C mt fa) (F : FnOk X.prog X.w X.K X.mg X.base CX0 k fa fd ps (spD X.K m W)) (hr : Room k X.A) (hb : Binds X.K fd ps ds) (hd : Vals dvs ds) (hdd : Dflt X.K dvs dd)
    (ha : DA X B (e :: es) ms fs) (hms : ∀ m ∈ ms, m = .own 0 := by simp)
    (hst : starEach (e :: es) X.env = (false, eval e X.env) :: starEach es X.env := by rfl) (hpl : (backTo pos (starEach es X.env)).any (·.1) = false := by rfl)
    (ht : eval (.Call (.Attribute o mt apos) (e :: es) [] pos) X.env = (do
      let ov ← eval o X.env
      standAt apos.atName
      let (f, first) ← holding [ov] (getMethod ov mt pl)
      callWith pos f first (backTo pos (starEach (e :: es) X.env)) (backToKw pos (keywordEach [] X.env))) := by rfl) :
    DE X B (.Call (.Attribute o mt apos) (e :: es) [] pos) m (fun ρ R => fo ρ fun x => isObjD C mt x ∧ fs ρ fun xs => W B (x :: (xs ++ dd)) R) :=
  PE.imp (pe_meth ho c hm F hr hb hd pass0 ha hst hpl ht) fun σ H Q ⟨F, ρ, fp, R, S, hf, k⟩ => by
    refine ⟨F, ρ, fp, _, S, hf, fun F1 H1 v x f1 s1 hv o1 n1 ⟨hx, hg⟩ => ?_⟩
    obtain ⟨es', rfl, hl'⟩ := hx.inv
    obtain ⟨ef, a, dx, gs, ev, ea, hk, it⟩ := hv.obj rfl s1.wf
    subst ev
    refine ⟨a, dx, gs, rfl, ea, lookup_none hk hl', F1, ρ, fp, _, S.step s1 (fun a ha => by cases ha), hg, fun F2 H2 vs xs f2 s2 hv2 o2 n2 hW => ?_⟩
    have hx1 : GK.R X.K F2 (.ref a) (.obj C es') := hv.1.mono s2.fs
    exact call_all s2.wf (.cons hx1 ((hv2.rl0 hms).append (hdd F2))) hW ((k.after s1 (A1 := []) fun a ha => (by cases ha)).after s2 (A1 := f2) fun a ha => (o2 a ha).1)
end
end GK

namespace GK
open PySem PySem.Spec PyProof.Rows L2

/-! ### attributes -/
def gFld (C : Addr) (f : Str) : D → (D → Prop) → Prop
  | .obj C' es, R => C' = C ∧ ∃ d, es.lookup f = some d ∧ R d
  | _, _ => False
section
variable {X : Cx} {e : Expr} {f : Str} {pos : Pos} {m : Mode} {fo : FE} {C : Addr}
theorem de_fld (he : DE X B e m fo) (hm : m.look = true) (c : Cls X.K C) (nf : NoAttr X.K C f) (hb : attributeBase e f X.env (eval e X.env) = eval e X.env := by rfl) : DE X B (.Attribute e f pos) m.child (fUn (gFld C f) fo) :=
  PE.imp (pe_fld he hb) fun σ H Q h => tD_un (m := m.child) (g := gFld C f) (f := fo) (r := fun x H1 Q => ∃ a C' dx fs v, x = .ref a ∧ H1 a = some (.ins C' dx fs) ∧ Cls X.K C' ∧ NoAttr X.K C' f ∧ fs.lookup f = some v ∧ Q v H1) (by
    intro B F H x d fp R Q w hv hf hg k
    cases d <;> try exact hg.elim
    rename_i C' es
    obtain ⟨rfl, d, hl, hR⟩ := hg
    obtain ⟨ef, a, dx, fs, ev, ea, hk, it⟩ := hv.obj hm w
    obtain ⟨i, v, e1, e2, e3⟩ := lookup_some hk hl
    obtain ⟨v', e4, hv'⟩ := it.2 i d e3
    rw [e2] at e4
    cases e4
    exact ⟨a, C', dx, fs, v, ev, ea, c, nf, e1, k.val w hv' hR⟩) h
end
theorem ne_mem {l : List Addr} {a b : Addr} (h : b ∈ l) (h' : a ∉ l) : b ≠ a := fun z => by subst z; exact h' h
/-! ### what changes an object: it is taken out of its name, changed, and put back -/
section
variable {K : PySem.W.Frag} {B fp : List Addr} {Pn : List V} {Z0 F0 F H : Hp} {σ : L2.St} {ρ : Env} {n : Nat}
theorem StOk.put {v : V} {d : D} {f : List Addr} {i : Nat} (S : StOk K B Pn Z0 F0 F H σ ρ fp) (h : Own K F H n v d f) (ap : Apart B Z0 F fp f) (hi : i < ρ.length) (hv : σ[i]? = some (some v)) :
    ∃ fp', StOk K B Pn Z0 F0 F H σ (ρ.set i (some (n, d))) fp' := by
  have nd : (fp ++ f).Nodup := List.nodup_append.mpr ⟨S.nd, ap.2, fun a ha b hb e => by
    subst e
    exact (ap.1 a hb).2.2.2 ha⟩
  obtain ⟨fp', o', nd', sub⟩ := OwnE.set h S.own nd hi
  rw [set_self hv] at o'
  refine ⟨fp', S.wf, o', nd', fun a ha => ?_, S.z, S.zB, S.f, S.fr, S.pn⟩
  rcases sub a ha with z | z
  · exact S.out a z
  · obtain ⟨h1, h2, h3, _⟩ := ap.1 a z
    exact ⟨h1, h2, h3⟩
theorem WF.mut {a : Addr} {o : HO} (w : WF B F H) (hF : F a = none) (hB : a ∉ B) (ho : erO o = o) : WF B F (upd H a o) :=
  ⟨fun b u e => by
    have hb : b ≠ a := fun z => by rw [z, hF] at e; cases e
    obtain ⟨hB', x, ex, er⟩ := rdH_some (w.sub b u e)
    exact rdH_of hB' (by rw [upd_ne hb]; exact ex) er, fun b ob u hb e => by
    by_cases h : b = a
    · subst h
      rw [upd_same] at e
      have e' : o = .frz ob u := Option.some.inj e
      rw [e'] at ho
      have z : u = .frz ob u := ho
      have : sizeOf u = sizeOf (HO.frz ob u) := congrArg sizeOf z
      simp at this
    · rw [upd_ne h] at e; exact w.lock b ob u hb e, w.bag.keep fun b hb u h => by
    rw [upd_ne (ne_mem hb hB)]; exact h⟩
theorem StOk.mut {a : Addr} {o : HO} (S : StOk K B Pn Z0 F0 F H σ ρ fp) (ha : a ∉ fp) (hF : F a = none) (hB : a ∉ B) (hZ : Z0 a = none) (ho : erO o = o) : StOk K B Pn Z0 F0 F (upd H a o) σ ρ fp :=
  ⟨S.wf.mut hF hB ho, S.own.mono (fun _ _ h => h) fun b hb u e => by rw [upd_ne (ne_mem hb ha)]; exact e, S.nd, S.out, fun b u e => by
    rw [upd_ne (fun z => by rw [z, hZ] at e; cases e)]; exact S.z b u e, S.zB, S.f, S.fr, S.pn⟩
/-- the node at the top of an owned thing is changed: more may be owned then -/
theorem StOk.change {d : D} {i : Nat} {P : Addr → HO → List Addr → Prop} (S : StOk K B Pn Z0 F0 F H σ ρ fp) (e : slot ρ i = some (n + 1, d))
    (hd : ∀ v f, Own K F H (n + 1) v d f → ∃ a g o, v = .ref a ∧ f = a :: g ∧ H a = some o ∧ P a o g) :
    ∃ a g o, σ[i]? = some (some (.ref a)) ∧ H a = some o ∧ P a o g ∧ a ∉ g ∧ g.Nodup ∧ (∀ b ∈ a :: g, b ∈ fp) ∧ ∀ o' d' g' fc, erO o' = o' → Apart B Z0 F fp fc → (∀ b ∈ g', b ∈ g ∨ b ∈ fc) → g'.Nodup →
      Own K F (upd H a o') (n + 1) (.ref a) d' (a :: g') → ∃ fp', StOk K B Pn Z0 F0 F (upd H a o') σ (ρ.set i (some (n + 1, d'))) fp' := by
  obtain ⟨v, f, fp1, e1, e2, S1, ap1, sub⟩ := S.take e
  obtain ⟨a, g, o, rfl, rfl, ha, hP⟩ := hd v f e2
  obtain ⟨hag, hg⟩ := List.nodup_cons.mp ap1.2
  refine ⟨a, g, o, e1, ha, hP, hag, hg, fun b hb => sub b (List.mem_append_right _ hb), fun o' d' g' fc ho ap hs hn' ho' => ?_⟩
  obtain ⟨h1, h2, h3, h4⟩ := ap1.1 a List.mem_cons_self
  have S2 := S1.mut h4 h1 h2 h3 ho
  have hi : i < (ρ.set i none).length := by rw [List.length_set]; exact slot_lt e
  have hac : a ∉ fc := fun z => (ap.1 a z).2.2.2 (sub a (List.mem_append_right _ List.mem_cons_self))
  have ap' : Apart B Z0 F fp1 (a :: g') := by
    refine ⟨fun b hb => ?_, List.nodup_cons.mpr ⟨fun z => (hs a z).elim hag hac, hn'⟩⟩
    rcases List.mem_cons.mp hb with z | z
    · rw [z]; exact ⟨h1, h2, h3, h4⟩
    · rcases hs b z with q | q
      · exact ap1.1 b (List.mem_cons_of_mem _ q)
      · obtain ⟨k1, k2, k3, k4⟩ := ap.1 b q
        exact ⟨k1, k2, k3, fun r => k4 (sub b (List.mem_append_left _ r))⟩
  obtain ⟨fp', S3⟩ := S2.put (i := i) ho' ap' hi e1
  rw [List.set_set] at S3
  exact ⟨fp', S3⟩
theorem own_lst {ds : List D} : ∀ v f, Own K F H (n + 1) v (.lst ds) f → ∃ a g o, v = .ref a ∧ f = a :: g ∧ H a = some o ∧ ∃ vs, o = .lst vs ∧ OwnL (Own K F H n) vs ds g :=
  fun v f ⟨a, vs, g, e1, e2, e3, e4⟩ => ⟨a, g, .lst vs, e1, e3, e2, vs, rfl, e4⟩
theorem own_dK {es : List (Key × D)} : ∀ v f, Own K F H (n + 1) v (.dK es) f → ∃ a g o, v = .ref a ∧ f = a :: g ∧ H a = some o ∧ ∃ kvs, o = .dK kvs ∧ kvs.map (·.1) = es.map (·.1) ∧ OwnL (Own K F H n) (kvs.map (·.2)) (es.map (·.2)) g :=
  fun v f ⟨a, vs, g, e1, e2, e3, e4, e5⟩ => ⟨a, g, .dK vs, e1, e3, e2, vs, rfl, e4, e5⟩
theorem own_dT {es : List (List Key × D)} : ∀ v f, Own K F H (n + 1) v (.dT es) f → ∃ a g o, v = .ref a ∧ f = a :: g ∧ H a = some o ∧ ∃ kvs, o = .dT kvs ∧ kvs.map (·.1) = es.map (·.1) ∧ OwnL (Own K F H n) (kvs.map (·.2)) (es.map (·.2)) g :=
  fun v f ⟨a, vs, g, e1, e2, e3, e4, e5⟩ => ⟨a, g, .dT vs, e1, e3, e2, vs, rfl, e4, e5⟩
theorem own_obj {C : Addr} {es : List (Str × D)} : ∀ v f, Own K F H (n + 1) v (.obj C es) f → ∃ a g o, v = .ref a ∧ f = a :: g ∧ H a = some o ∧ ∃ dx fs, o = .ins C dx fs ∧ fs.map (·.1) = es.map (·.1) ∧ OwnL (Own K F H n) (fs.map (·.2)) (es.map (·.2)) g :=
  fun v f ⟨a, dx, vs, g, e1, e2, e3, e4, e5⟩ => ⟨a, g, .ins C dx vs, e1, e3, e2, dx, vs, rfl, e4, e5⟩
/-- what was owned stays so when another node changes -/
theorem OwnL.upd {vs : List V} {ds : List D} {g : List Addr} {a : Addr} {o : HO} (h : OwnL (Own K F H n) vs ds g) (ha : a ∉ g) : OwnL (Own K F (upd H a o) n) vs ds g :=
  h.imp fun v d f hf => Own.mono (fun _ _ h => h) fun b hb u e => by rw [upd_ne (ne_mem (hf b hb) ha)]; exact e
theorem Own.upd {v : V} {d : D} {g : List Addr} {a : Addr} {o : HO} (h : Own K F H n v d g) (ha : a ∉ g) : Own K F (upd H a o) n v d g :=
  Own.mono (fun _ _ h => h) (fun b hb u e => by rw [upd_ne (ne_mem hb ha)]; exact e) h
theorem OwnL.append {P : V → D → List Addr → Prop} : ∀ {vs ws : List V} {ds es : List D} {f g : List Addr}, OwnL P vs ds f → OwnL P ws es g → OwnL P (vs ++ ws) (ds ++ es) (f ++ g)
  | [], ws, [], es, f, g, h, k => by
    have e : f = [] := h
    rw [e]; exact k
  | v :: vs, ws, d :: ds, es, f, g, ⟨f1, f2, e, h, t⟩, k => ⟨f1, f2 ++ g, by rw [e, List.append_assoc], h, OwnL.append t k⟩
theorem OwnL.one {P : V → D → List Addr → Prop} {v : V} {d : D} {f : List Addr} (h : P v d f) : OwnL P [v] [d] f := ⟨f, [], (List.append_nil f).symm, h, rfl⟩
theorem OwnL.set {P : V → D → List Addr → Prop} {v : V} {d : D} {g : List Addr} (q : P v d g) : ∀ {vs : List V} {ds : List D} {f : List Addr} (i : Nat), OwnL P vs ds f → (f ++ g).Nodup → ∃ f', OwnL P (vs.set i v) (ds.set i d) f' ∧ (∀ a ∈ f', a ∈ f ∨ a ∈ g) ∧ f'.Nodup
  | [], [], f, i, h, nd => ⟨f, h, fun a ha => .inl ha, (List.nodup_append.mp nd).1⟩
  | v' :: vs, d' :: ds, f, 0, ⟨f1, f2, e, h, t⟩, nd => by
    subst e
    refine ⟨g ++ f2, ⟨g, f2, rfl, q, t⟩, fun a ha => ?_, ?_⟩
    · rcases List.mem_append.mp ha with z | z
      · exact .inr z
      · exact .inl (List.mem_append_right _ z)
    · rw [List.append_assoc] at nd
      exact nd_comm (List.nodup_append.mp nd).2.1
  | v' :: vs, d' :: ds, f, i + 1, ⟨f1, f2, e, h, t⟩, nd => by
    subst e
    rw [List.append_assoc] at nd
    obtain ⟨n1, n2, n3⟩ := List.nodup_append.mp nd
    obtain ⟨f', h', sub, nd'⟩ := OwnL.set q i t n2
    refine ⟨f1 ++ f', ⟨f1, f', rfl, h, h'⟩, fun a ha => ?_, List.nodup_append.mpr ⟨n1, nd', fun a ha b hb e => ?_⟩⟩
    · rcases List.mem_append.mp ha with z | z
      · exact .inl (List.mem_append_left _ z)
      · rcases sub a z with z | z
        · exact .inl (List.mem_append_right _ z)
        · exact .inr z
    · subst e
      rcases sub a hb with z | z
      · exact n3 a ha a (List.mem_append_left _ z) rfl
      · exact n3 a ha a (List.mem_append_right _ z) rfl
/-- some are left out -/
theorem OwnL.erase {P : V → D → List Addr → Prop} : ∀ {vs : List V} {ds : List D} {f : List Addr} (i : Nat), OwnL P vs ds f → f.Nodup → ∃ f', OwnL P (vs.eraseIdx i) (ds.eraseIdx i) f' ∧ (∀ a ∈ f', a ∈ f) ∧ f'.Nodup ∧
      ∀ v, vs[i]? = some v → ∃ d g, ds[i]? = some d ∧ P v d g ∧ (f' ++ g).Nodup ∧ ∀ a ∈ g, a ∈ f
  | [], [], f, i, h, nd => ⟨f, h, fun a ha => ha, nd, fun v e => by simp at e⟩
  | v' :: vs, d' :: ds, f, 0, ⟨f1, f2, e, h, t⟩, nd => by
    subst e
    obtain ⟨n1, n2, n3⟩ := List.nodup_append.mp nd
    refine ⟨f2, t, fun a ha => List.mem_append_right _ ha, n2, fun v e => ⟨d', f1, rfl, ?_, nd_comm nd, fun a ha => List.mem_append_left _ ha⟩⟩
    have e' : v' = v := Option.some.inj e
    subst e'; exact h
  | v' :: vs, d' :: ds, f, i + 1, ⟨f1, f2, e, h, t⟩, nd => by
    subst e
    obtain ⟨n1, n2, n3⟩ := List.nodup_append.mp nd
    obtain ⟨f', h', sub, nd', k⟩ := OwnL.erase i t n2
    refine ⟨f1 ++ f', ⟨f1, f', rfl, h, h'⟩, fun a ha => ?_, List.nodup_append.mpr ⟨n1, nd', fun a ha b hb e => n3 a ha b (sub b hb) e⟩, fun v e => ?_⟩
    · rcases List.mem_append.mp ha with z | z
      · exact List.mem_append_left _ z
      · exact List.mem_append_right _ (sub a z)
    · obtain ⟨d, g, e1, e2, e3, e4⟩ := k v e
      refine ⟨d, g, e1, e2, ?_, fun a ha => List.mem_append_right _ (e4 a ha)⟩
      rw [List.append_assoc]
      exact List.nodup_append.mpr ⟨n1, e3, fun a ha b hb e => n3 a ha b ((List.mem_append.mp hb).elim (sub b) (e4 b)) e⟩
end
end GK

namespace GK
open PySem PySem.Spec PyProof.Rows L2

/-! ### methods that change a name's own list -/
/-- a name's own list, and what is done with it -/
def ownLst (ρ : Env) (i n : Nat) (k : List D → Prop) : Prop := match slot ρ i with
  | some (m, .lst ds) => m = n + 1 ∧ k ds
  | _ => False
theorem ownLst.inv {ρ : Env} {i n : Nat} {k : List D → Prop} (h : ownLst ρ i n k) : ∃ ds, slot ρ i = some (n + 1, .lst ds) ∧ k ds := by
  unfold ownLst at h
  split at h
  · rename_i m ds e
    obtain ⟨rfl, h⟩ := h
    exact ⟨ds, e, h⟩
  · exact h.elim
def ownDK (ρ : Env) (i n : Nat) (k : List (Key × D) → Prop) : Prop := match slot ρ i with
  | some (m, .dK ds) => m = n + 1 ∧ k ds
  | _ => False
theorem ownDK.inv {ρ : Env} {i n : Nat} {k : List (Key × D) → Prop} (h : ownDK ρ i n k) : ∃ ds, slot ρ i = some (n + 1, .dK ds) ∧ k ds := by
  unfold ownDK at h
  split at h
  · rename_i m ds e
    obtain ⟨rfl, h⟩ := h
    exact ⟨ds, e, h⟩
  · exact h.elim
def ownDT (ρ : Env) (i n : Nat) (k : List (List Key × D) → Prop) : Prop := match slot ρ i with
  | some (m, .dT ds) => m = n + 1 ∧ k ds
  | _ => False
theorem ownDT.inv {ρ : Env} {i n : Nat} {k : List (List Key × D) → Prop} (h : ownDT ρ i n k) : ∃ ds, slot ρ i = some (n + 1, .dT ds) ∧ k ds := by
  unfold ownDT at h
  split at h
  · rename_i m ds e
    obtain ⟨rfl, h⟩ := h
    exact ⟨ds, e, h⟩
  · exact h.elim
def ownObj (C : Addr) (ρ : Env) (i n : Nat) (k : List (Str × D) → Prop) : Prop := match slot ρ i with
  | some (m, .obj C' ds) => m = n + 1 ∧ C' = C ∧ k ds
  | _ => False
theorem ownObj.inv {C : Addr} {ρ : Env} {i n : Nat} {k : List (Str × D) → Prop} (h : ownObj C ρ i n k) : ∃ ds, slot ρ i = some (n + 1, .obj C ds) ∧ k ds := by
  unfold ownObj at h
  split at h
  · rename_i m C' ds e
    obtain ⟨rfl, rfl, h⟩ := h
    exact ⟨ds, e, h⟩
  · exact h.elim
section
variable {K : PySem.W.Frag} {B fp : List Addr} {Pn : List V} {Z0 F0 F H : Hp} {σ : L2.St} {ρ : Env} {n i : Nat}
/-- the own list at a name -/
theorem StOk.lst {ds : List D} (S : StOk K B Pn Z0 F0 F H σ ρ fp) (e : slot ρ i = some (n + 1, .lst ds)) :
    ∃ a vs g, σ[i]? = some (some (.ref a)) ∧ H a = some (.lst vs) ∧ OwnL (Own K F H n) vs ds g ∧ a ∉ g ∧ g.Nodup ∧ (∀ b ∈ a :: g, b ∈ fp) ∧ ∀ vs' ds' g' fc, Apart B Z0 F fp fc → (∀ b ∈ g', b ∈ g ∨ b ∈ fc) → g'.Nodup → OwnL (Own K F H n) vs' ds' g' →
      ∃ fp', StOk K B Pn Z0 F0 F (upd H a (.lst vs')) σ (ρ.set i (some (n + 1, .lst ds'))) fp' := by
  obtain ⟨a, g, o, h1, h2, ⟨vs, rfl, h3⟩, h4, h5, h6, k⟩ := S.change e own_lst
  refine ⟨a, vs, g, h1, h2, h3, h4, h5, h6, fun vs' ds' g' fc ap hs nd ho => k (.lst vs') _ g' fc rfl ap hs nd ⟨a, vs', g', rfl, upd_same, rfl, ho.upd fun z => (hs a z).elim h4 fun z => (ap.1 a z).2.2.2 (h6 a List.mem_cons_self)⟩⟩
theorem StOk.dK {ds : List (Key × D)} (S : StOk K B Pn Z0 F0 F H σ ρ fp) (e : slot ρ i = some (n + 1, .dK ds)) :
    ∃ a kvs g, σ[i]? = some (some (.ref a)) ∧ H a = some (.dK kvs) ∧ kvs.map (·.1) = ds.map (·.1) ∧ OwnL (Own K F H n) (kvs.map (·.2)) (ds.map (·.2)) g ∧ a ∉ g ∧ g.Nodup ∧ (∀ b ∈ a :: g, b ∈ fp) ∧ ∀ (kvs' : List (Key × V)) (ds' : List (Key × D)) g' fc, Apart B Z0 F fp fc → (∀ b ∈ g', b ∈ g ∨ b ∈ fc) → g'.Nodup → kvs'.map (·.1) = ds'.map (·.1) → OwnL (Own K F H n) (kvs'.map (·.2)) (ds'.map (·.2)) g' →
      ∃ fp', StOk K B Pn Z0 F0 F (upd H a (.dK kvs')) σ (ρ.set i (some (n + 1, .dK ds'))) fp' := by
  obtain ⟨a, g, o, h1, h2, ⟨vs, rfl, hk, h3⟩, h4, h5, h6, k⟩ := S.change e own_dK
  refine ⟨a, vs, g, h1, h2, hk, h3, h4, h5, h6, fun vs' ds' g' fc ap hs nd hk' ho => k (.dK vs') _ g' fc rfl ap hs nd ⟨a, vs', g', rfl, upd_same, rfl, hk', ho.upd fun z => (hs a z).elim h4 fun z => (ap.1 a z).2.2.2 (h6 a List.mem_cons_self)⟩⟩
theorem StOk.dT {ds : List (List Key × D)} (S : StOk K B Pn Z0 F0 F H σ ρ fp) (e : slot ρ i = some (n + 1, .dT ds)) :
    ∃ a kvs g, σ[i]? = some (some (.ref a)) ∧ H a = some (.dT kvs) ∧ kvs.map (·.1) = ds.map (·.1) ∧ OwnL (Own K F H n) (kvs.map (·.2)) (ds.map (·.2)) g ∧ a ∉ g ∧ g.Nodup ∧ (∀ b ∈ a :: g, b ∈ fp) ∧ ∀ (kvs' : List (List Key × V)) (ds' : List (List Key × D)) g' fc, Apart B Z0 F fp fc → (∀ b ∈ g', b ∈ g ∨ b ∈ fc) → g'.Nodup → kvs'.map (·.1) = ds'.map (·.1) → OwnL (Own K F H n) (kvs'.map (·.2)) (ds'.map (·.2)) g' →
      ∃ fp', StOk K B Pn Z0 F0 F (upd H a (.dT kvs')) σ (ρ.set i (some (n + 1, .dT ds'))) fp' := by
  obtain ⟨a, g, o, h1, h2, ⟨vs, rfl, hk, h3⟩, h4, h5, h6, k⟩ := S.change e own_dT
  refine ⟨a, vs, g, h1, h2, hk, h3, h4, h5, h6, fun vs' ds' g' fc ap hs nd hk' ho => k (.dT vs') _ g' fc rfl ap hs nd ⟨a, vs', g', rfl, upd_same, rfl, hk', ho.upd fun z => (hs a z).elim h4 fun z => (ap.1 a z).2.2.2 (h6 a List.mem_cons_self)⟩⟩
theorem StOk.obj {C : Addr} {ds : List (Str × D)} (S : StOk K B Pn Z0 F0 F H σ ρ fp) (e : slot ρ i = some (n + 1, .obj C ds)) :
    ∃ a dx kvs g, σ[i]? = some (some (.ref a)) ∧ H a = some (.ins C dx kvs) ∧ kvs.map (·.1) = ds.map (·.1) ∧ OwnL (Own K F H n) (kvs.map (·.2)) (ds.map (·.2)) g ∧ a ∉ g ∧ g.Nodup ∧ (∀ b ∈ a :: g, b ∈ fp) ∧ ∀ (kvs' : List (Str × V)) (ds' : List (Str × D)) g' fc, Apart B Z0 F fp fc → (∀ b ∈ g', b ∈ g ∨ b ∈ fc) → g'.Nodup → kvs'.map (·.1) = ds'.map (·.1) → OwnL (Own K F H n) (kvs'.map (·.2)) (ds'.map (·.2)) g' →
      ∃ fp', StOk K B Pn Z0 F0 F (upd H a (.ins C dx kvs')) σ (ρ.set i (some (n + 1, .obj C ds'))) fp' := by
  obtain ⟨a, g, o, h1, h2, ⟨dx, vs, rfl, hk, h3⟩, h4, h5, h6, k⟩ := S.change e own_obj
  refine ⟨a, dx, vs, g, h1, h2, hk, h3, h4, h5, h6, fun vs' ds' g' fc ap hs nd hk' ho => k (.ins C dx vs') _ g' fc rfl ap hs nd ⟨a, dx, vs', g', rfl, upd_same, rfl, hk', ho.upd fun z => (hs a z).elim h4 fun z => (ap.1 a z).2.2.2 (h6 a List.mem_cons_self)⟩⟩
theorem Apart.nil : Apart B Z0 F fp [] := ⟨fun a h => (by cases h), List.nodup_nil⟩
theorem nd_of {g f : List Addr} (h1 : g.Nodup) (h2 : f.Nodup) (h3 : ∀ a ∈ f, a ∉ g) : (g ++ f).Nodup := List.nodup_append.mpr ⟨h1, h2, fun a ha b hb e => by subst e; exact h3 a hb ha⟩
end
/-! the same by a list of data -/
def putD {κ : Type} [DecidableEq κ] (es : List (κ × D)) (k : κ) (d : D) : List (κ × D) :=
  if (es.any fun e => decide (e.1 = k)) = true then es.map (fun e => if e.1 = k then (e.1, d) else e) else es ++ [(k, d)]
def getD' {κ : Type} [DecidableEq κ] (es : List (κ × D)) (k : κ) : Option D := (es.find? fun e => decide (e.1 = k)).map (·.2)
section
variable {κ : Type} [DecidableEq κ] {kvs : List (κ × V)} {es : List (κ × D)}
theorem any_keys : ∀ {kvs : List (κ × V)} {es : List (κ × D)}, kvs.map (·.1) = es.map (·.1) → ∀ k : κ, (kvs.any fun e => decide (e.1 = k)) = es.any fun e => decide (e.1 = k)
  | [], [], _, _ => rfl
  | p :: r, q :: s, h, k => by
    rw [List.map_cons, List.map_cons] at h
    injection h with h1 h2
    rw [List.any_cons, List.any_cons, any_keys h2 k, h1]
  | [], _ :: _, h, _ => by cases h
  | _ :: _, [], h, _ => by cases h
theorem val_get {k : κ} : ∀ {kvs : List (κ × V)} {es : List (κ × D)}, kvs.map (·.1) = es.map (·.1) →
    (valV kvs k = none ∧ getD' es k = none) ∨ ∃ (i : Nat) (v : V) (d : D), valV kvs k = some v ∧ getD' es k = some d ∧ (kvs.map (·.2))[i]? = some v ∧ (es.map (·.2))[i]? = some d
  | [], [], _ => .inl ⟨rfl, rfl⟩
  | p :: r, q :: s, h => by
    rw [List.map_cons, List.map_cons] at h
    injection h with h1 h2
    by_cases e : p.1 = k
    · right
      refine ⟨0, p.2, q.2, valV_pos e, ?_, rfl, rfl⟩
      have e' : q.1 = k := h1 ▸ e
      simp [getD', List.find?_cons, e']
    · have e' : ¬ q.1 = k := h1 ▸ e
      have g : getD' (q :: s) k = getD' s k := by simp [getD', List.find?_cons, e']
      rw [valV_neg e, g]
      rcases val_get (k := k) h2 with ⟨a, b⟩ | ⟨i, v, d, a, b, c, c'⟩
      · exact .inl ⟨a, b⟩
      · exact .inr ⟨i + 1, v, d, a, b, by simpa using c, by simpa using c'⟩
  | [], _ :: _, h => by cases h
  | _ :: _, [], h => by cases h
theorem put_keys {v : V} {d : D} {k : κ} (h : kvs.map (·.1) = es.map (·.1)) : (putK kvs k v).map (·.1) = (putD es k d).map (·.1) := by
  unfold putK putD
  rw [any_keys h k]
  split
  · rw [List.map_map, List.map_map]
    have e1 : (fun x : κ × V => x.1) ∘ (fun kv : κ × V => if kv.1 = k then (kv.1, v) else kv) = fun x => x.1 := by
      funext x; show (if x.1 = k then (x.1, v) else x).1 = x.1; split <;> rfl
    have e2 : (fun x : κ × D => x.1) ∘ (fun kv : κ × D => if kv.1 = k then (kv.1, d) else kv) = fun x => x.1 := by
      funext x; show (if x.1 = k then (x.1, d) else x).1 = x.1; split <;> rfl
    rw [e1, e2]; exact h
  · rw [List.map_append, List.map_append, h]; rfl
theorem put_rl {K : PySem.W.Frag} {F : Hp} {v : V} {d : D} {k : κ} (q : R K F v d) (hk : kvs.map (·.1) = es.map (·.1)) (h : RL K F (kvs.map (·.2)) (es.map (·.2))) : RL K F ((putK kvs k v).map (·.2)) ((putD es k d).map (·.2)) := by
  unfold putK putD
  rw [any_keys hk k]
  by_cases c : (es.any fun e => decide (e.1 = k)) = true
  · rw [if_pos c, if_pos c]
    clear c
    induction kvs generalizing es with
    | nil =>
      cases es with
      | nil => exact .nil
      | cons q s => cases hk
    | cons p r ih =>
      cases es with
      | nil => cases hk
      | cons p' s =>
        rw [List.map_cons, List.map_cons] at hk
        injection hk with h1 h2
        rw [List.map_cons, List.map_cons] at h
        simp only [List.map_cons]
        cases h with
        | cons h t =>
          refine .cons ?_ (ih h2 t)
          rw [h1]
          by_cases e : p'.1 = k
          · rw [if_pos e, if_pos e]; exact q
          · rw [if_neg e, if_neg e]; exact h
  · rw [if_neg c, if_neg c, List.map_append, List.map_append]
    exact h.append (.cons q .nil)
end

/-! ### the statements and methods -/
structure NameOk (X : Cx) (i : Nat) (x : Str) : Prop where
  hN : X.N[i]? = some x
  hv : Vis X.env.scope x
  hd : (x == ("__debug__" : Str)) = false
  hcd : (x == ("__classdict__" : Str)) = false
structure BmOk (X : Cx) (o : Expr) (name : Str) (apos : Pos) (e : Expr) (es : List Expr) (cpos : Pos) : Prop where
  hbase : attributeBase o name X.env (eval o X.env) = eval o X.env
  hfew : ((backTo cpos (starEach (e :: es) X.env)).all (fun x => !x.1) && (backToKw cpos (keywordEach [] X.env)).all (fun x => x.1.isSome)
      && decide ((e :: es).length + ([] : List Keyword).length + (if ([] : List Keyword).isEmpty then 0 else 1) < 30)) = true
  hline : (apos.endLine == cpos.line) = true
  hs : starEach (e :: es) X.env = (false, eval e X.env) :: starEach es X.env
  hplain : (backTo cpos (starEach es X.env)).any (·.1) = false
structure Bm0Ok (X : Cx) (o : Expr) (name : Str) (apos cpos : Pos) : Prop where
  hbase : attributeBase o name X.env (eval o X.env) = eval o X.env
  hline : (apos.endLine == cpos.line) = true
section
variable {X : Cx} {e e2 : Expr} {pin n i : Nat} {m mr : Mode} {f f2 : FM} {fe : FE} {x : Str} {pos p apos cpos : Pos} {es : List Expr}
/-- x.append(e) -/
theorem dm_append (i n : Nat) (he : DM X B e pin (.own n) f) (hN : NameOk X i x := by exact ⟨rfl, by first | exact Or.inl rfl | exact Or.inr (Or.inl rfl) | exact Or.inr (Or.inr rfl), by decide, by decide⟩) (hb : BmOk X (.Name x p) "append" apos e [] cpos := by exact ⟨rfl, rfl, rfl, rfl, rfl⟩) :
    DM X B (.Call (.Attribute (.Name x p) "append" apos) [e] [] cpos) pin m (fun ρ R => ownLst ρ i n (fun _ => True) ∧ f ρ fun d ρ' => ownLst ρ' i n fun ds => ds.length < sizeLine ∧ R .non (ρ'.set i (some (n + 1, .lst (ds ++ [d]))))) :=
  PE.imp (pe_bm PySem.F.plainAttrs_list PySem.F.slot_list_append PySem.F.type_list_append mt_append (pe_var hN.1 hN.2 hN.3 hN.4) (pa_cons he pa_nil hb.4) hb.1 hb.2 hb.3 hb.4 hb.5) fun σ H Q ⟨Pn, Z0, F0, F, ρ, fp, R, hpl, S, ⟨h0, hf⟩, k⟩ => by
    obtain ⟨ds0, e0, _⟩ := h0.inv
    obtain ⟨a, vs, g, h1, h2, h3, h4, h5, h6, kk⟩ := S.lst e0
    refine ⟨_, h1, .inl ⟨rfl, _, SqL.of h2⟩, Pn, Z0, F0, F, ρ, fp, _, hpl, S, hf, fun F' H' ρ' fp' v d f' S' hv ap hR => ?_⟩
    obtain ⟨ds, e1, hz, hR⟩ := hR.inv
    obtain ⟨a', vs', g', h1', h2', h3', h4', h5', h6', kk'⟩ := S'.lst e1
    rw [h1] at h1'
    cases h1'
    obtain ⟨fp2, S2⟩ := kk' (vs' ++ [v]) (ds ++ [d]) (g' ++ f') f' ap (fun b hb => List.mem_append.mp hb) (nd_of h5' ap.2 fun b hb z => (ap.1 b hb).2.2.2 (h6' b (List.mem_cons_of_mem _ z))) (h3'.append (OwnL.one hv))
    exact ⟨a, vs', v, rfl, rfl, h2', by rw [h3'.len]; exact hz, k F' _ _ fp2 .non .non [] S2 (Val.atom rfl fun _ => .non) .nil hR⟩
/-- x[j] = e -/
theorem ds_setL (i n : Nat) (he : DM X B e pin (.own n) f) (hj : DE X B e2 (.own 0) fe) (hN : NameOk X i x := by exact ⟨rfl, by first | exact Or.inl rfl | exact Or.inr (Or.inl rfl) | exact Or.inr (Or.inr rfl), by decide, by decide⟩)
    (ha : ∀ v, assign (.Subscript (.Name x p) e2 apos) X.env v = (do
      let ov ← holding [v] (eval (.Name x p) X.env)
      let iv ← holding [v, ov] (eval e2 X.env)
      standAt apos
      holding [v, ov, iv] (setItem ov iv v)
      release [v, ov, iv] []) := by intro _; rfl)
    (hs : swapsWithSole [.Subscript (.Name x p) e2 apos] e pos.line X.env = pure false := by rfl) (hw : swappedStores [.Subscript (.Name x p) e2 apos] e X.env = pure none := by rfl)
    (h1 : (assignEach [.Subscript (.Name x p) e2 apos] X.env).map (·.2) = [assign (.Subscript (.Name x p) e2 apos) X.env] := by rfl) :
    DS X B (.Assign [.Subscript (.Name x p) e2 apos] e pos) pin mr (fun E ρ => f ρ fun d ρ' => ownLst ρ' i n (fun _ => True) ∧ fe ρ' fun j => match j with
      | .int j => ownLst ρ' i n fun ds => ∃ k, ixN ds.length j = some k ∧ E.nx (ρ'.set i (some (n + 1, .lst (ds.set k d))))
      | _ => False) :=
  PS.imp (ps_asg he (pg_sub (pe_var hN.1 hN.2 hN.3 hN.4) hj set_list ha) hs hw h1) fun Dn σ H ⟨Pn, Z0, F0, F, ρ, fp, E, hpl, S, hf, L⟩ => by
    refine ⟨Pn, Z0, F0, F, ρ, fp, _, hpl, S, hf, fun F' H' ρ' fp' v d f' S' hv ap ⟨h0, hR⟩ => ?_⟩
    obtain ⟨ds0, e0, _⟩ := h0.inv
    obtain ⟨a, vs, g, h1, h2, h3, h4, h5, h6, kk⟩ := S'.lst e0
    refine ⟨_, h1, F', ρ', fp', _, S'.base, hR, fun F2 H2 w j fj s2 hw oj nj hj => ?_⟩
    have S2 := S'.step s2 fun a h => (by cases h)
    cases j <;> try exact hj.elim
    rename_i j
    obtain ⟨rfl, rfl⟩ := hw.int
    obtain ⟨ds, e1, kx, hx, hR⟩ := ownLst.inv hj
    obtain ⟨a', vs', g', h1', h2', h3', h4', h5', h6', kk'⟩ := S2.lst e1
    rw [h1] at h1'
    cases h1'
    have ap2 : Apart B Z0 F2 fp' f' := ⟨fun b hb => by
      obtain ⟨q1, q2, q3, q4⟩ := ap.1 b hb
      obtain ⟨o, eo, mu⟩ := hv.there b hb
      exact ⟨s2.out eo mu q2 q1 (fun z => (by cases z)), q2, q3, q4⟩, ap.2⟩
    have hv2 : Own X.K F2 H2 n v d f' := hv.step s2 fun b hb => (ap.1 b hb).2.1
    obtain ⟨g2, o2, sub, nd⟩ := OwnL.set hv2 kx h3' (nd_of h5' ap.2 fun b hb z => (ap.1 b hb).2.2.2 (h6' b (List.mem_cons_of_mem _ z)))
    obtain ⟨fp2, S3⟩ := kk' (vs'.set kx v) (ds.set kx d) g2 f' ap2 sub nd o2
    exact ⟨a, vs', j, kx, rfl, rfl, h2', by rw [h3'.len]; exact hx, L.nx F2 _ _ _ fp2 S3 hR⟩
/-- the key that a value is -/
def keyOf : D → Option Key
  | .int i => some (.inl i)
  | .str s => some (.inr s)
  | _ => none
def keysOf : List D → Option (List Key)
  | [] => some []
  | d :: ds => match keyOf d, keysOf ds with
    | some k, some ks => some (k :: ks)
    | _, _ => none
def keyT : D → Option (List Key)
  | .tup ds => keysOf ds
  | _ => none
theorem keyOf_R {K : PySem.W.Frag} {G : Hp} {d : D} {v : V} {k : Key} (h : keyOf d = some k) (r : R K G v d) : v = kV k := by
  cases d <;> try (cases h; done)
  · cases h; cases r; rfl
  · cases h; cases r; rfl
theorem keysOf_R {K : PySem.W.Frag} {G : Hp} : ∀ {ds : List D} {vs : List V} {ks : List Key}, keysOf ds = some ks → RL K G vs ds → vs = ks.map kV
  | [], _, ks, h, .nil => by cases h; rfl
  | d :: ds, _, ks, h, .cons r t => by
    unfold keysOf at h
    split at h
    · rename_i k' ks' h1 h2
      cases h
      rw [List.map_cons, keyOf_R h1 r, keysOf_R h2 t]
    · cases h
/-- d[k] = e, the keys ints or texts, what is kept may be read -/
theorem ds_putK (i : Nat) (hu : X.A.units + 1 < cLine) (he : DM X B e pin (.own 0) f) (hj : DE X B e2 (.own 0) fe) (hN : NameOk X i x := by exact ⟨rfl, by first | exact Or.inl rfl | exact Or.inr (Or.inl rfl) | exact Or.inr (Or.inr rfl), by decide, by decide⟩) (hs : swapsWith e (some (.Subscript (.Name x p) e2 apos)) pos.line X.env = pure false := by rfl) :
    DS X B (.Assign [.Subscript (.Name x p) e2 apos] e pos) pin mr (fun E ρ => f ρ fun d ρ' => ownDK ρ' i 0 (fun _ => True) ∧ fe ρ' fun j => ∃ k, keyOf j = some k ∧ ownDK ρ' i 0 fun ds => ds.length < sizeLine ∧ E.nx (ρ'.set i (some (1, .dK (putD ds k d))))) :=
  PS.imp (ps_dput hu (pe_var hN.1 hN.2 hN.3 hN.4) hj he hs) fun Dn σ H ⟨Pn, Z0, F0, F, ρ, fp, E, hpl, S, hf, L⟩ => by
    refine ⟨Pn, Z0, F0, F, ρ, fp, _, hpl, S, hf, fun F' H' ρ' fp' v d f' S' hv ap ⟨h0, hR⟩ => ?_⟩
    obtain ⟨ds0, e0, _⟩ := h0.inv
    obtain ⟨a, vs, g, h1, h2, hk, h3, h4, h5, h6, kk⟩ := S'.dK e0
    refine ⟨_, h1, F', ρ', fp', _, S'.base, hR, fun F2 H2 w j fj s2 hw oj nj hj => ?_⟩
    have S2 := S'.step s2 fun a h => (by cases h)
    obtain ⟨k, ek, hj⟩ := hj
    obtain ⟨ds, e1, hz, hR⟩ := hj.inv
    obtain ⟨a', vs', g', h1', h2', hk', h3', h4', h5', h6', kk'⟩ := S2.dK e1
    rw [h1] at h1'
    cases h1'
    obtain ⟨hv0, rfl⟩ := (show Own X.K F' H' 0 v d f' from hv)
    obtain ⟨fp2, S3⟩ := kk' (putK vs' k v) (putD ds k d) [] [] .nil (fun b h => (by cases h)) List.nodup_nil (put_keys hk') (OwnL.zero (put_rl (R.mono s2.fs hv0) hk' h3'.toRL0))
    have hlen : vs'.length = ds.length := by have := congrArg List.length hk'; simpa using this
    have ew : w = kV k := keyOf_R ek (hw.1)
    exact ⟨a, _, rfl, .inl ⟨vs', k, h2', ew, by rw [hlen]; exact hz, rfl⟩, L.nx F2 _ _ _ fp2 S3 hR⟩
/-- .. the keys tuples -/
theorem ds_putT (i : Nat) (hu : X.A.units + 1 < cLine) (he : DM X B e pin (.own 0) f) (hj : DE X B e2 (.own 0) fe) (hN : NameOk X i x := by exact ⟨rfl, by first | exact Or.inl rfl | exact Or.inr (Or.inl rfl) | exact Or.inr (Or.inr rfl), by decide, by decide⟩) (hs : swapsWith e (some (.Subscript (.Name x p) e2 apos)) pos.line X.env = pure false := by rfl) :
    DS X B (.Assign [.Subscript (.Name x p) e2 apos] e pos) pin mr (fun E ρ => f ρ fun d ρ' => ownDT ρ' i 0 (fun _ => True) ∧ fe ρ' fun j => ∃ k, keyT j = some k ∧ ownDT ρ' i 0 fun ds => ds.length < sizeLine ∧ E.nx (ρ'.set i (some (1, .dT (putD ds k d))))) :=
  PS.imp (ps_dput hu (pe_var hN.1 hN.2 hN.3 hN.4) hj he hs) fun Dn σ H ⟨Pn, Z0, F0, F, ρ, fp, E, hpl, S, hf, L⟩ => by
    refine ⟨Pn, Z0, F0, F, ρ, fp, _, hpl, S, hf, fun F' H' ρ' fp' v d f' S' hv ap ⟨h0, hR⟩ => ?_⟩
    obtain ⟨ds0, e0, _⟩ := h0.inv
    obtain ⟨a, vs, g, h1, h2, hk, h3, h4, h5, h6, kk⟩ := S'.dT e0
    refine ⟨_, h1, F', ρ', fp', _, S'.base, hR, fun F2 H2 w j fj s2 hw oj nj hj => ?_⟩
    have S2 := S'.step s2 fun a h => (by cases h)
    obtain ⟨k, ek, hj⟩ := hj
    obtain ⟨ds, e1, hz, hR⟩ := hj.inv
    obtain ⟨a', vs', g', h1', h2', hk', h3', h4', h5', h6', kk'⟩ := S2.dT e1
    rw [h1] at h1'
    cases h1'
    obtain ⟨hv0, rfl⟩ := (show Own X.K F' H' 0 v d f' from hv)
    obtain ⟨fp2, S3⟩ := kk' (putK vs' k v) (putD ds k d) [] [] .nil (fun b h => (by cases h)) List.nodup_nil (put_keys hk') (OwnL.zero (put_rl (R.mono s2.fs hv0) hk' h3'.toRL0))
    have hlen : vs'.length = ds.length := by have := congrArg List.length hk'; simpa using this
    cases j <;> try (cases ek; done)
    rename_i js
    obtain ⟨ta, ws, rfl, ht, hrl⟩ := (hw.1 : R X.K F2 w (.tup js)).tupI
    have ew : ws = k.map kV := keysOf_R ek hrl
    subst ew
    exact ⟨a, _, rfl, .inr ⟨vs', k, ta, h2', rfl, tup_of S2.wf (S2.wf.sub _ _ ht), by rw [hlen]; exact hz, rfl⟩, L.nx F2 _ _ _ fp2 S3 hR⟩
end
end GK

namespace GK
open PySem PySem.Spec PyProof.Rows L2

/-! ### a method that changes its own object; __init__ -/
/-- wp of the object, of the arguments and of what is wanted of the value and of the object behind it -/
abbrev FSpecM := D → List D → (D → D → Prop) → Prop
/-- what stands, but for what the object owns, is kept -/
structure StepM (B f : List Addr) (F H F' H' : Hp) : Prop where
  same : ∀ a o, a ∉ B → a ∉ f → H a = some o → H' a = some o
  fs : Same F F'
  fresh : ∀ a u, F' a = some u → F a = some u ∨ H a = none ∨ isTup u ∨ a ∈ f
  wf : WF B F' H'
def spM (K : PySem.W.Frag) (n : Nat) (m : Mode) (W : FSpecM) : Sp := fun vs H Q _ => ∃ B F v ws s ds f R, vs = v :: ws ∧ WF B F H ∧ Own K F H n v s f ∧ Fp B F f ∧ RL K F ws ds ∧ W s ds R ∧
  ∀ F' H' r d fr s' f', StepM B f F H F' H' → Own K F' H' n v s' f' → Val K m B F' H' r d fr → (∀ a ∈ f' ++ fr, (a ∈ f ∨ H a = none) ∧ F' a = none ∧ a ∉ B) → (f' ++ fr).Nodup → R d s' → Q r H'
abbrev DEnds.meth (n : Nat) (R : D → D → Prop) : DEnds := { nx := fun ρ => ∃ s, slot ρ 0 = some (n, s) ∧ R .non s, rt := fun d ρ => ∃ s, slot ρ 0 = some (n, s) ∧ R d s }
section
variable {P : Program} {w : World} {K : PySem.W.Frag} {mg : Str → Option Value} {base : Heap}
theorem StOk.stepM {B : List Addr} {Pn : List V} {F H : Hp} {σ : L2.St} {ρ : Env} {fp : List Addr} {F1 H1 : Hp} {f : List Addr} (T : StOk K B Pn (prot B f H1) F1 F H σ ρ fp) : StepM B f F1 H1 F H :=
  ⟨fun a o hb hf e => T.z a o (by rw [prot_out hf hb]; exact e), T.f, fun a u e => by
    rcases T.fr a u e with z | z | z
    · exact .inl z
    · by_cases hb : a ∈ B
      · have := T.wf.outB hb
        rw [this] at e; cases e
      · by_cases hf : a ∈ f
        · exact .inr (.inr (.inr hf))
        · rw [prot_out hf hb] at z; exact .inr (.inl z)
    · exact .inr (.inr (.inl z)), T.wf⟩
theorem Fun_okM {x qual : Str} {st : Stmt} {fa : Addr} {fd : FuncData} {N ps : List Str} {k n : Nat} {m : Mode} {W : FSpecM} (F : Fun K x qual st fa fd) (S : FnScope N ps (defScope st)) (len : ∀ s ds R, W s ds R → ds.length + 1 = ps.length)
    (hbody : ∀ (B : List Addr) (cdv : Value) (A : Around) (outer : List PySem.Env) (s : Shared) (H : Hp) (E : XK), Room k (A.deeper (envOfC qual (defScope st) s.heap.objs.size fa cdv)) →
      ∃ g, DSs (cxOf CX0 P w K mg base N qual (defScope st) fa cdv A outer s H E).nox B (defBody st) 1 m g ∧ ∀ s ds R, W s ds R → g (DEnds.meth n R) (some (n, s) :: (envOf ds ++ List.replicate (N.length - (ds.length + 1)) none))) : FnOk P w K mg base CX0 (k + 1) fa fd ps (spM K n m W) := by
  refine F.ok S (fun vs H Q E ⟨B, F, v, ws, s, ds, f, R, e, w, o, a, r, hW, k⟩ => by rw [e, List.length_cons, r.length]; exact len s ds R hW) fun cdv A outer sh H vs Q E hr ⟨B, F, v, ws, s, ds, f, R, ev, w, ho, ⟨ha, hn⟩, r, hW, k⟩ => ?_
  obtain ⟨g, hg, hq⟩ := hbody B cdv A outer sh H E hr
  subst ev
  refine ⟨_, hg, [v], prot B f H, F, F, _, f, DEnds.meth n R, rfl, ⟨w, ?_, hn, fun a h => ⟨(ha a h).1, (ha a h).2, prot_in (.inl h)⟩, prot_same, fun a h => prot_in (.inr h), fun _ _ h => h, fun a u h => .inl h, fun i u e => ?_⟩, hq s ds R hW, ?_⟩
  · rw [start_eq, List.length_cons, r.length]
    exact ⟨f, [], (List.append_nil f).symm, ho, ownE_start _ r⟩
  · cases i with
    | zero =>
      have e' : v = u := Option.some.inj e
      subst e'; rfl
    | succ i => simp at e
  have fin : ∀ {F' H' : Hp} {σ' : L2.St} {ρ' : Env} {fp' : List Addr} {s' : D} {r : V} {d : D} {fr : List Addr}, StOk K B [v] (prot B f H) F F' H' σ' ρ' fp' → slot ρ' 0 = some (n, s') → Val K m B F' H' r d fr → Apart B (prot B f H) F' fp' fr → R d s' → Q r H' := fun {F' H' σ' ρ' fp' s' r d fr} T e hv ap hR => by
    obtain ⟨v', f', fp2, e1, e2, T2, ap2, sub⟩ := T.take e
    have e3 := T.pn 0 v rfl
    rw [e3] at e1
    cases e1
    refine k F' H' r d fr s' f' T.stepM e2 hv (fun a ha => ?_) ?_ hR
    · have key : F' a = none ∧ a ∉ B ∧ prot B f H a = none := by
        rcases List.mem_append.mp ha with z | z
        · obtain ⟨h1, h2, h3, _⟩ := ap2.1 a z; exact ⟨h1, h2, h3⟩
        · obtain ⟨h1, h2, h3, _⟩ := ap.1 a z; exact ⟨h1, h2, h3⟩
      refine ⟨?_, key.1, key.2.1⟩
      by_cases hf : a ∈ f
      · exact .inl hf
      · right
        have := key.2.2
        rw [prot_out hf key.2.1] at this; exact this
    · refine List.nodup_append.mpr ⟨ap2.2, ap.2, fun a ha b hb e => ?_⟩
      subst e
      exact (ap.1 a hb).2.2.2 (sub a (List.mem_append_right _ ha))
  exact ⟨fun F' H' σ' ρ' fp' T ⟨s', e, h⟩ => fin T e (Val.atom (d := .non) (v := .non) rfl fun _ => .non) .nil h, fun F' H' σ' ρ' fp' v d f T hv ap ⟨s', e, h⟩ => fin T e hv ap h,
    fun _ _ _ _ _ _ h => h.elim, fun _ _ _ _ _ _ h => h.elim⟩
end
/-- self.f = e, in its own method -/
def putF' (f : Str) (d : D) : List (Str × D) → List (Str × D)
  | [] => [(f, d)]
  | (g, x) :: r => if g = f then (g, d) :: r else (g, x) :: putF' f d r
theorem putF_keys {f : Str} {v : V} {d : D} : ∀ {fs : List (Str × V)} {es : List (Str × D)}, fs.map (·.1) = es.map (·.1) → (putF f v fs).map (·.1) = (putF' f d es).map (·.1)
  | [], [], _ => rfl
  | (g, x) :: r, (g', y) :: s, h => by
    rw [List.map_cons, List.map_cons] at h
    injection h with h1 h2
    have h1 : g = g' := h1
    subst h1
    unfold putF putF'
    by_cases e : g = f
    · rw [if_pos e, if_pos e, List.map_cons, List.map_cons, h2]
    · rw [if_neg e, if_neg e, List.map_cons, List.map_cons, putF_keys h2]
  | [], _ :: _, h => by cases h
  | _ :: _, [], h => by cases h
theorem putF_own {P : V → D → List Addr → Prop} {f : Str} {v : V} {d : D} {q : List Addr} (h : P v d q) : ∀ {fs : List (Str × V)} {es : List (Str × D)} {g : List Addr}, fs.map (·.1) = es.map (·.1) → OwnL P (fs.map (·.2)) (es.map (·.2)) g → (g ++ q).Nodup →
    ∃ g', OwnL P ((putF f v fs).map (·.2)) ((putF' f d es).map (·.2)) g' ∧ (∀ a ∈ g', a ∈ g ∨ a ∈ q) ∧ g'.Nodup
  | [], [], g, _, t, nd => by
    have e : g = [] := t
    subst e
    exact ⟨q, OwnL.one h, fun a ha => .inr ha, (List.nodup_append.mp nd).2.1⟩
  | (k, x) :: r, (k', y) :: s, g, hk, ⟨f1, f2, e, h1, t⟩, nd => by
    rw [List.map_cons, List.map_cons] at hk
    injection hk with k1 k2
    have k1 : k = k' := k1
    subst k1
    subst e
    rw [List.append_assoc] at nd
    obtain ⟨n1, n2, n3⟩ := List.nodup_append.mp nd
    unfold putF putF'
    by_cases e : k = f
    · rw [if_pos e, if_pos e]
      refine ⟨q ++ f2, ⟨q, f2, rfl, h, t⟩, fun a ha => ?_, nd_comm n2⟩
      rcases List.mem_append.mp ha with z | z
      · exact .inr z
      · exact .inl (List.mem_append_right _ z)
    · rw [if_neg e, if_neg e]
      obtain ⟨g', o, sub, nd'⟩ := putF_own h k2 t n2
      refine ⟨f1 ++ g', ⟨f1, g', rfl, h1, o⟩, fun a ha => ?_, List.nodup_append.mpr ⟨n1, nd', fun a ha b hb e => ?_⟩⟩
      · rcases List.mem_append.mp ha with z | z
        · exact .inl (List.mem_append_left _ z)
        · rcases sub a z with z | z
          · exact .inl (List.mem_append_right _ z)
          · exact .inr z
      · subst e
        rcases sub a hb with z | z
        · exact n3 a ha a (List.mem_append_left _ z) rfl
        · exact n3 a ha a (List.mem_append_right _ z) rfl
  | [], _ :: _, _, h, _, _ => by cases h
  | _ :: _, [], _, h, _, _ => by cases h
section
variable {X : Cx} {e : Expr} {pin : Nat} {mr : Mode} {f : FM} {x fld : Str} {pos p pos' : Pos} {C : Addr}
theorem ds_fld (i n : Nat) (c : Cls X.K C) (nf : NoAttr X.K C fld) (he : DM X B e pin (.own n) f) (hN : NameOk X i x := by exact ⟨rfl, by first | exact Or.inl rfl | exact Or.inr (Or.inl rfl) | exact Or.inr (Or.inr rfl), by decide, by decide⟩)
    (hs : swapsWith e (some (.Attribute (.Name x p) fld pos')) pos.line X.env = pure false := by rfl) :
    DS X B (.Assign [.Attribute (.Name x p) fld pos'] e pos) pin mr (fun E ρ => f ρ fun d ρ' => ownObj C ρ' i n fun es => es.length < 1000 ∧ E.nx (ρ'.set i (some (n + 1, .obj C (putF' fld d es))))) :=
  PS.imp (ps_fld (pe_var hN.1 hN.2 hN.3 hN.4) he hs) fun Dn σ H ⟨Pn, Z0, F0, F, ρ, fp, E, hpl, S, hf, L⟩ => by
    refine ⟨Pn, Z0, F0, F, ρ, fp, _, hpl, S, hf, fun F' H' ρ' fp' v d f' S' hv ap hR => ?_⟩
    obtain ⟨es, e1, hz, hR⟩ := hR.inv
    obtain ⟨a, dx, fs, g, h1, h2, hk, h3, h4, h5, h6, kk⟩ := S'.obj e1
    obtain ⟨g', o, sub, nd⟩ := putF_own (f := fld) (show Own X.K F' H' n v d f' from hv) hk h3 (nd_of h5 ap.2 fun b hb z => (ap.1 b hb).2.2.2 (h6 b (List.mem_cons_of_mem _ z)))
    obtain ⟨fp2, S2⟩ := kk (putF fld v fs) (putF' fld d es) g' f' ap sub nd (putF_keys hk) o
    have hlen : fs.length = es.length := by have := congrArg List.length hk; simpa using this
    exact ⟨_, h1, a, C, dx, fs, rfl, h2, c, nf, by rw [hlen]; exact hz, L.nx F' _ _ _ fp2 S2 hR⟩
end
/-! ### C(..) -/
section
variable {X : Cx} {k : Nat} {fa C : Addr} {fd : FuncData} {ps : List Str} {ds : List Value} {dvs : List V} {x : Str} {p pos : Pos} {e : Expr} {es : List Expr} {ms : List Mode} {fs : FA} {W : FSpecM} {dd : List D} {n : Nat} {m : Mode}
theorem make_ok {K : PySem.W.Frag} {B A : List Addr} {F H : Hp} {vs : List V} {xs : List D} {R : D → Prop} {Q : VK} {x dx : Addr} (w : WF B F H) (r : RL K F vs xs) (hx : H x = none) (hdx : H dx = none) (ne : dx ≠ x)
    (h : W (.obj C []) xs fun d s => d = .non ∧ R s) (k : Post K B A F H (.own (n + 1)) R Q) : spM K (n + 1) m W (.ref x :: vs) (upd (upd H dx (.own x)) x (.ins C dx [])) (fun v H2 => v = .non ∧ Q (.ref x) H2) fun _ _ _ => False := by
  have w1 := w.laid (o := .own x) hdx rfl
  have hx1 : upd H dx (.own x) x = none := by rw [upd_ne (Ne.symm ne)]; exact hx
  have w2 := w1.laid (o := .ins C dx []) hx1 rfl
  have old : ∀ a o, H a = some o → upd (upd H dx (.own x)) x (.ins C dx []) a = some o := fun a o e => same_upd hx1 a o (same_upd hdx a o e)
  refine ⟨B, F, .ref x, vs, .obj C [], xs, [x], _, rfl, w2, ⟨x, dx, [], [], rfl, upd_same, rfl, rfl, rfl⟩, ⟨fun a ha => ?_, by simp⟩, r, h, fun F' H' r d fr s' f' s ho hv hf hn ⟨hd, hR⟩ => ?_⟩
  · have e : a = x := by simpa using ha
    subst e
    exact ⟨F_none w hx, w.notB hx⟩
  · subst hd
    obtain ⟨rfl, rfl⟩ := hv.non
    refine ⟨rfl, k F' H' (.ref x) s' f' ⟨fun a o hb e => s.same a o hb (fun hm => ?_) (old a o e), s.fs, fun a u e => ?_, s.wf⟩ ho (fun a ha => ?_) (by simpa using hn) hR⟩
    · have e' : a = x := by simpa using hm
      subst e'
      rw [hx] at e; cases e
    · rcases s.fresh a u e with z | z | z | z
      · exact .inl z
      · right; left
        cases q : H a with
        | none => rfl
        | some o => rw [old a o q] at z; cases z
      · exact .inr (.inr (.inl z))
      · have e' : a = x := by simpa using z
        subst e'
        exact .inr (.inl hx)
    · obtain ⟨h1, h2⟩ := hf a (by simpa using ha)
      refine ⟨?_, h2⟩
      rcases h1 with z | z
      · have e' : a = x := by simpa using z
        subst e'
        exact .inr hx
      · right
        cases q : H a with
        | none => rfl
        | some o => rw [old a o q] at z; cases z
theorem de_make (M : Mk X.K C fa) (F : FnOk X.prog X.w X.K X.mg X.base CX0 k fa fd ps (spM X.K (n + 1) m W)) (hr : Room (k + 1) X.A) (hg : Gl X x) (hm : X.mg x = some (.ref C)) (hb : Binds X.K fd ps ds) (hd : Vals dvs ds) (hdd : Dflt X.K dvs dd)
    (ha : DA X B (e :: es) ms fs) (hms : ∀ m ∈ ms, m = .own 0 := by simp) (hdb : (x == ("__debug__" : Str)) = false := by decide) (he : starEach (e :: es) X.env = (false, eval e X.env) :: starEach es X.env := by rfl) (hpl : (backTo pos (starEach es X.env)).any (·.1) = false := by rfl) :
    DE X B (.Call (.Name x p) (e :: es) [] pos) (.own (n + 1)) (fArgs (fun xs R => W (.obj C []) (xs ++ dd) fun d s => d = .non ∧ R s) fs) :=
  PE.imp (pe_make M F hr hg hm hb hd pass0 ha hdb he hpl) fun σ H Q ⟨F, ρ, fp, R, S, hf, k⟩ => ⟨F, ρ, fp, _, S, hf, fun F1 H1 vs xs fp1 s1 hv o1 n1 hW x dx hx hdx ne =>
    make_ok s1.wf ((hv.rl0 hms).append (hdd F1)) hx hdx ne hW (k.after s1 (A1 := fp1) fun a ha => (o1 a ha).1)⟩
theorem de_make0 (M : Mk X.K C fa) (F : FnOk X.prog X.w X.K X.mg X.base CX0 k fa fd ps (spM X.K (n + 1) m W)) (hr : Room (k + 1) X.A) (hg : Gl X x) (hm : X.mg x = some (.ref C)) (hb : Binds X.K fd ps ds) (hd : Vals dvs ds) (hdd : Dflt X.K dvs dd)
    (hdb : (x == ("__debug__" : Str)) = false := by decide) : DE X B (.Call (.Name x p) [] [] pos) (.own (n + 1)) (fun _ R => W (.obj C []) dd fun d s => d = .non ∧ R s) :=
  PE.imp (pe_make0 M F hr hg hm hb hd pass0 hdb) fun σ H Q ⟨F, ρ, fp, R, S, hf, k⟩ x dx hx hdx ne => make_ok S.wf (hdd F) hx hdx ne hf k
/-- o.m() -/
theorem de_meth0 {mt : Str} {o : Expr} {fo : FE} {W : BSpec} {apos : Pos} {pl : Sem Bool} (ho : DE X B o (.own 0) fo) (c : Cls X.K C) (hm : Meth X.K C mt fa) (F : FnOk X.prog X.w X.K X.mg X.base CX0 k fa fd ps (spD X.K m W)) (hr : Room k X.A) (hb : Binds X.K fd ps ds) (hd : Vals dvs ds) (hdd : Dflt X.K dvs dd)
    (ht : eval (.Call (.Attribute o mt apos) [] [] pos) X.env = (do
      let ov ← eval o X.env
      standAt apos.atName
      let (f, first) ← holding [ov] (getMethod ov mt pl)
      callWith pos f first (backTo pos (starEach [] X.env)) (backToKw pos (keywordEach [] X.env))) := by rfl) :
    DE X B (.Call (.Attribute o mt apos) [] [] pos) m (fun ρ R => fo ρ fun x => isObjD C mt x ∧ W B (x :: dd) R) :=
  PE.imp (pe_meth0 ho c hm F hr hb hd pass0 ht) fun σ H Q ⟨F, ρ, fp, R, S, hf, k⟩ => by
    refine ⟨F, ρ, fp, _, S, hf, fun F1 H1 v x f1 s1 hv o1 n1 ⟨hx, hg⟩ => ?_⟩
    obtain ⟨es', rfl, hl'⟩ := hx.inv
    obtain ⟨ef, a, dx, gs, ev, ea, hk, it⟩ := hv.obj rfl s1.wf
    subst ev
    refine ⟨a, dx, gs, rfl, ea, lookup_none hk hl', ?_⟩
    have hx1 : GK.R X.K F1 (.ref a) (.obj C es') := hv.1
    exact call_all (vs := .ref a :: ([] ++ dvs)) s1.wf (.cons hx1 (hdd F1)) hg (k.after s1 (A1 := []) fun a ha => (by cases ha))
end
end GK

namespace GK
open PySem PySem.Spec PyProof.Rows L2

/-! ### tests -/
def bOf (R : Bool → Prop) : D → Prop
  | .bl b => R b
  | _ => False
abbrev fBool (f : FE) : FT := fun ρ R => f ρ (bOf R)
section
variable {K : PySem.W.Frag} {m : Mode} {σ : L2.St} {H : Hp} {f : FE}
theorem tD_bool {Q : Bool → Hp → Prop} (h : tDT K B (fBool f) σ H Q) : tD K B m f σ H fun x H' => ∃ k, x = .bl k ∧ Q k H' := by
  obtain ⟨F, ρ, fp, R, S, hf, k⟩ := h
  refine ⟨F, ρ, fp, _, S, hf, fun F' H' v d f' s hv ho hn hR => ?_⟩
  cases d <;> try exact (show False from hR).elim
  obtain ⟨rfl, _⟩ := hv.bl
  exact ⟨_, rfl, k F' H' _ s hR⟩
end
section
variable {X : Cx} {a b e : Expr} {rest : List Expr} {op : CmpOp} {pos : Pos} {m m1 m2 : Mode} {r : R2} {g : D → D → (D → Prop) → Prop} {f f' : FE} {ft ft' : FT}
theorem dt_cmp (m : Mode) (ho : OpR X (compareOp op) r) (hr : Op2 X.K r m1 m2 m g) (ha : DE X B a m1 f) (hb : DE X B b m2 f') (hm : behindInMarks op b = false) : DT X B (.Compare a [op] [b] pos) (fBool (fBin g f f')) :=
  PT.imp (pt_cmpR ho ha hb hm) fun _ _ _ q => tD_bin (m := m) (g := g) hr (tD_bool q)
/-- an expression whose value is True or False -/
theorem dt_val (h : DE X B e m f) (he : ∀ whole, isTrue e X.env whole = (do let v ← whole; standAt e.pos; holding [v] (truthy v)) := by intro _; rfl) : DT X B e (fBool f) :=
  PT.imp (pt_val h he) fun _ _ _ q => tD_bool q
theorem dt_not (h : DT X B a ft) : DT X B (.UnaryOp .Not a pos) (fun ρ R => ft ρ fun c => R (!c)) :=
  PT.imp (pt_not h) fun _ _ _ ⟨F, ρ, fp, R, S, hf, k⟩ => ⟨F, ρ, fp, _, S, hf, fun F' H' c s hR => k F' H' _ s hR⟩
abbrev DW (X : Cx) (B : List Addr) (e : Expr) (f : FT) : Prop := PW X e (tDT X.K B f)
theorem dw_and1 (h : DT X B a ft) : DW X B (.BoolOp .And [a] pos) ft := pw_and1 h
theorem dw_or1 (h : DT X B a ft) : DW X B (.BoolOp .Or [a] pos) ft := pw_or1 h
theorem dw_and (h : DT X B a ft) (h' : DW X B (.BoolOp .And (b :: rest) pos) ft') : DW X B (.BoolOp .And (a :: b :: rest) pos) (fun ρ R => ft ρ fun c => if c = true then ft' ρ R else R false) :=
  PW.imp (pw_and h h') fun σ H Q ⟨F, ρ, fp, R, S, hf, k⟩ => ⟨F, ρ, fp, _, S, hf, fun F1 H1 c s hR => by
    cases c with
    | true => exact ⟨F1, ρ, fp, R, S.step s (fun a h => by cases h), hR, fun F2 H2 d s2 hd => k F2 H2 d (s.trans s2 fun a h => by cases h) hd⟩
    | false => exact k F1 H1 _ s (by simpa using hR)⟩
theorem dw_or (h : DT X B a ft) (h' : DW X B (.BoolOp .Or (b :: rest) pos) ft') : DW X B (.BoolOp .Or (a :: b :: rest) pos) (fun ρ R => ft ρ fun c => if c = true then R true else ft' ρ R) :=
  PW.imp (pw_or h h') fun σ H Q ⟨F, ρ, fp, R, S, hf, k⟩ => ⟨F, ρ, fp, _, S, hf, fun F1 H1 c s hR => by
    cases c with
    | true => exact k F1 H1 _ s (by simpa using hR)
    | false => exact ⟨F1, ρ, fp, R, S.step s (fun a h => by cases h), hR, fun F2 H2 d s2 hd => k F2 H2 d (s.trans s2 fun a h => by cases h) hd⟩⟩
theorem dt_bool (h : DW X B e ft) : DT X B e ft := h.pt
/-- as values -/
def fAndV (f f' : FE) : FE := fun ρ R => f ρ (bOf fun c => if c = true then f' ρ R else R (.bl false))
def fOrV (f f' : FE) : FE := fun ρ R => f ρ (bOf fun c => if c = true then R (.bl true) else f' ρ R)
theorem de_one {op} (h : DE X B a m f) : DE X B (.BoolOp op [a] pos) m f := pe_one h
theorem de_and (h : DE X B a m1 f) (h' : DE X B (.BoolOp .And (b :: rest) pos) m f') : DE X B (.BoolOp .And (a :: b :: rest) pos) m (fAndV f f') :=
  PE.imp (pe_and h h') fun σ H Q ⟨F, ρ, fp, R, S, hf, k⟩ => ⟨F, ρ, fp, _, S, hf, fun F1 H1 v d f1 s hv ho hn hR => by
    cases d <;> try exact (show False from hR).elim
    obtain ⟨rfl, rfl⟩ := hv.bl
    refine ⟨_, rfl, ?_⟩
    rename_i c
    have hR : if c = true then f' ρ R else R (.bl false) := hR
    cases c with
    | true => exact ⟨F1, ρ, fp, R, S.step s (fun a h => by cases h), hR, k.after s fun a h => by cases h⟩
    | false => exact k.after s (A1 := []) (fun a h => by cases h) |>.bl s.wf (by simpa using hR)⟩
theorem de_or (h : DE X B a m1 f) (h' : DE X B (.BoolOp .Or (b :: rest) pos) m f') : DE X B (.BoolOp .Or (a :: b :: rest) pos) m (fOrV f f') :=
  PE.imp (pe_or h h') fun σ H Q ⟨F, ρ, fp, R, S, hf, k⟩ => ⟨F, ρ, fp, _, S, hf, fun F1 H1 v d f1 s hv ho hn hR => by
    cases d <;> try exact (show False from hR).elim
    obtain ⟨rfl, rfl⟩ := hv.bl
    refine ⟨_, rfl, ?_⟩
    rename_i c
    have hR : if c = true then R (.bl true) else f' ρ R := hR
    cases c with
    | true => exact k.after s (A1 := []) (fun a h => by cases h) |>.bl s.wf (by simpa using hR)
    | false => exact ⟨F1, ρ, fp, R, S.step s (fun a h => by cases h), by simpa using hR, k.after s fun a h => by cases h⟩⟩
def gNotV : D → (D → Prop) → Prop
  | .bl b, R => R (.bl (!b))
  | _, _ => False
theorem de_not (h : DE X B a m1 f) : DE X B (.UnaryOp .Not a pos) m (fUn gNotV f) :=
  PE.imp (pe_not h) fun σ H Q q => tD_un (m := m) (g := gNotV) (f := f) (r := fun x H1 Q => ∃ c, x = .bl c ∧ Q (.bl (!c)) H1) (by
    intro B F H x d fp R Q w hv hf hg k
    cases d <;> try exact (show False from hg).elim
    obtain ⟨rfl, rfl⟩ := hv.bl
    exact ⟨_, rfl, k.bl w hg⟩) q
theorem de_ifExp {c : Expr} (hc : DT X B c ft) (ha : DE X B a m f) (hb : DE X B b m f') : DE X B (.IfExp c a b pos) m (fun ρ R => ft ρ fun t => if t = true then f ρ R else f' ρ R) :=
  PE.imp (pe_ifExp hc ha hb) fun σ H Q ⟨F, ρ, fp, R, S, hf, k⟩ => ⟨F, ρ, fp, _, S, hf, fun F1 H1 c s hR => by
    cases c with
    | true => exact ⟨F1, ρ, fp, R, S.step s (fun a h => by cases h), hR, k.after s fun a h => by cases h⟩
    | false => exact ⟨F1, ρ, fp, R, S.step s (fun a h => by cases h), by simpa using hR, k.after s fun a h => by cases h⟩⟩
end

/-! ### equality -/
/-- of atoms -/
def eqA : D → D → Option Bool
  | .int i, .int j => some (decide (i = j))
  | .str i, .str j => some (decide (i = j))
  | .bl i, .bl j => some (decide (i = j))
  | .non, .non => some true
  | .non, .int _ => some false
  | .int _, .non => some false
  | .non, .str _ => some false
  | .str _, .non => some false
  | .int _, .str _ => some false
  | .str _, .int _ => some false
  | .non, .bl _ => some false
  | .bl _, .non => some false
  | _, _ => none
def gEqA (n : Bool) (x y : D) (R : D → Prop) : Prop := match eqA x y with
  | some b => R (.bl (n ^^ b))
  | none => False
theorem eqA_spec {K : PySem.W.Frag} {m1 m2 : Mode} {B f1 f2 : List Addr} {F H : Hp} {x y : V} {d e : D} {b : Bool} (h : eqA d e = some b) (hx : Val K m1 B F H x d f1) (hy : Val K m2 B F H y e f2) : scal x y = true ∧ decide (x = y) = b := by
  cases d <;> cases e <;> try (cases h; done)
  all_goals first
    | (obtain ⟨rfl, _⟩ := hx.int) | (obtain ⟨rfl, _⟩ := hx.str) | (obtain ⟨rfl, _⟩ := hx.bl) | (obtain ⟨rfl, _⟩ := hx.non)
  all_goals first
    | (obtain ⟨rfl, _⟩ := hy.int) | (obtain ⟨rfl, _⟩ := hy.str) | (obtain ⟨rfl, _⟩ := hy.bl) | (obtain ⟨rfl, _⟩ := hy.non)
  all_goals (cases h; refine ⟨rfl, ?_⟩; first | simp | rfl)
/-! of data at any depth -/
mutual
def toP : D → PyData
  | .non => .none
  | .bl b => .bool b
  | .int i => .int i
  | .str s => .str s
  | .tup xs => .tuple (toPs xs)
  | .lst xs => .list (toPs xs)
  | .raw _ => .none
  | .dK _ => .none
  | .dT _ => .none
  | .obj _ _ => .none
def toPs : List D → List PyData
  | [] => []
  | d :: ds => toP d :: toPs ds
end
mutual
/-- None, bools, ints, texts, tuples and lists of such, n deep -/
def okD : Nat → D → Bool
  | _, .non => true
  | _, .bl _ => true
  | _, .int _ => true
  | _, .str s => s.cps.all (· < 0x110000)
  | n + 1, .tup xs => okDs n xs
  | n + 1, .lst xs => okDs n xs
  | _, _ => false
def okDs : Nat → List D → Bool
  | _, [] => true
  | n, d :: ds => okD n d && okDs n ds
end
mutual
theorem okD_can : ∀ {n : Nat} {d : D}, okD n d = true → (toP d).canLay0 = true ∧ (toP d).depth ≤ n
  | n, .non, _ => by simp [toP, PyData.canLay0, PyData.depth]
  | n, .bl b, _ => by simp [toP, PyData.canLay0, PyData.depth]
  | n, .int b, _ => by simp [toP, PyData.canLay0, PyData.depth]
  | n, .str b, h => by
    refine ⟨?_, by simp [toP, PyData.depth]⟩
    have h : (b.cps.all (· < 0x110000)) = true := by simpa [okD] using h
    simp only [toP, PyData.canLay0]
    exact h
  | n + 1, .tup xs, h => by
    have h := okDs_can (n := n) (ds := xs) (by simpa [okD] using h)
    simp only [toP, PyData.canLay0, PyData.depth]
    exact ⟨h.1, by have := h.2; omega⟩
  | n + 1, .lst xs, h => by
    have h := okDs_can (n := n) (ds := xs) (by simpa [okD] using h)
    simp only [toP, PyData.canLay0, PyData.depth]
    exact ⟨h.1, by have := h.2; omega⟩
  | 0, .tup xs, h => by simp [okD] at h
  | 0, .lst xs, h => by simp [okD] at h
  | n, .raw _, h => by simp [okD] at h
  | n, .dK _, h => by simp [okD] at h
  | n, .dT _, h => by simp [okD] at h
  | n, .obj _ _, h => by simp [okD] at h
theorem okDs_can : ∀ {n : Nat} {ds : List D}, okDs n ds = true → PyData.canLayAll0 (toPs ds) = true ∧ PyData.depthAll (toPs ds) ≤ n
  | n, [], _ => by simp [toPs, PyData.canLayAll0, PyData.depthAll]
  | n, d :: ds, h => by
    rw [okDs, Bool.and_eq_true] at h
    have h1 := okD_can h.1
    have h2 := okDs_can h.2
    simp only [toPs, PyData.canLayAll0, PyData.depthAll, Bool.and_eq_true]
    exact ⟨⟨h1.1, h2.1⟩, by have := h1.2; have := h2.2; omega⟩
end
theorem okD_shaped {n : Nat} {d : D} (h : okD n d = true) (hn : n ≤ 64) : SeqAt.shaped (toP d) = true := by
  obtain ⟨h1, h2⟩ := okD_can h
  exact Bool.and_eq_true_iff.mpr ⟨h1, decide_eq_true (Nat.le_trans h2 hn)⟩
mutual
theorem R.dp {K : PySem.W.Frag} {B : List Addr} {H : Hp} : ∀ {n : Nat} {v : V} {d : D}, okD n d = true → R K (rdH B H) v d → Dp K H v (toP d)
  | n, _, .non, _, r => by cases r; simp only [toP]; exact .non
  | n, _, .bl b, _, r => by cases r; simp only [toP]; exact .bl b
  | n, _, .int i, _, r => by cases r; simp only [toP]; exact .int i
  | n, _, .str s, _, r => by cases r; simp only [toP]; exact .str s
  | n + 1, _, .tup xs, h, r => by
    obtain ⟨a, vs, rfl, ht, rl⟩ := r.tupI
    simp only [toP]
    exact .tup (sqT_rd ht) (RL.dp (n := n) (by simpa [okD] using h) rl)
  | n + 1, _, .lst xs, h, r => by
    obtain ⟨a, vs, rfl, ht, rl⟩ := r.lstI
    simp only [toP]
    exact .lst (sqL_rd ht) (RL.dp (n := n) (by simpa [okD] using h) rl)
  | 0, _, .tup xs, h, r => by simp [okD] at h
  | 0, _, .lst xs, h, r => by simp [okD] at h
  | n, _, .raw _, h, r => by simp [okD] at h
  | n, _, .dK _, h, r => by simp [okD] at h
  | n, _, .dT _, h, r => by simp [okD] at h
  | n, _, .obj _ _, h, r => by simp [okD] at h
theorem RL.dp {K : PySem.W.Frag} {B : List Addr} {H : Hp} : ∀ {n : Nat} {vs : List V} {ds : List D}, okDs n ds = true → RL K (rdH B H) vs ds → DpAll K H vs (toPs ds)
  | n, _, [], _, r => by cases r; simp only [toPs]; exact .nil
  | n, _, d :: ds, h, r => by
    rw [okDs, Bool.and_eq_true] at h
    cases r with
    | cons r t =>
      simp only [toPs]
      exact .cons (R.dp h.1 r) (RL.dp h.2 t)
end
def eqvD (x y : D) : Bool := PyData.eqv (toP x) (toP y)
def gEqD (n : Bool) (x y : D) (R : D → Prop) : Prop := okD 60 x = true ∧ okD 60 y = true ∧ R (.bl (n ^^ eqvD x y))
section
variable {X : Cx} {a b : Expr} {pos : Pos} {m m1 m2 : Mode} {f f' : FE}
theorem op2_eqA {K : PySem.W.Frag} : Op2 K rEq m1 m2 m (gEqA false) := by
  intro B F H x y d e fp R Q w ⟨f1, f2, ef, h1, h2⟩ _ hg k
  unfold gEqA at hg
  split at hg
  · rename_i b hb
    obtain ⟨s, ed⟩ := eqA_spec hb h1 h2
    refine ⟨s, ?_⟩
    rw [ed]
    exact k.bl w (by simpa using hg)
  · exact hg.elim
theorem op2_neA {K : PySem.W.Frag} : Op2 K rNe m1 m2 m (gEqA true) := by
  intro B F H x y d e fp R Q w ⟨f1, f2, ef, h1, h2⟩ _ hg k
  unfold gEqA at hg
  split at hg
  · rename_i b hb
    obtain ⟨s, ed⟩ := eqA_spec hb h1 h2
    refine ⟨s, ?_⟩
    rw [ed]
    exact k.bl w (by simpa using hg)
  · exact hg.elim
theorem op2_eqD {K : PySem.W.Frag} : Op2 K (rEqD K) m1 m2 m (gEqD false) := by
  intro B F H x y d e fp R Q w ⟨f1, f2, ef, h1, h2⟩ hf ⟨o1, o2, hg⟩ k
  subst ef
  have r1 := h1.rd w fun a ha => (hf.1 a (List.mem_append_left _ ha)).2
  have r2 := h2.rd w fun a ha => (hf.1 a (List.mem_append_right _ ha)).2
  refine ⟨_, _, GK.R.dp o1 r1, GK.R.dp o2 r2, okD_shaped o1 (by decide), okD_shaped o2 (by decide), k.bl w ?_⟩
  simpa [eqvD] using hg
theorem op2_neD {K : PySem.W.Frag} : Op2 K (rNeD K) m1 m2 m (gEqD true) := by
  intro B F H x y d e fp R Q w ⟨f1, f2, ef, h1, h2⟩ hf ⟨o1, o2, hg⟩ k
  subst ef
  have r1 := h1.rd w fun a ha => (hf.1 a (List.mem_append_left _ ha)).2
  have r2 := h2.rd w fun a ha => (hf.1 a (List.mem_append_right _ ha)).2
  refine ⟨_, _, GK.R.dp o1 r1, GK.R.dp o2 r2, okD_shaped o1 (by decide), okD_shaped o2 (by decide), k.bl w ?_⟩
  simpa [eqvD] using hg
theorem de_eq (ha : DE X B a m1 f) (hb : DE X B b m2 f') : DE X B (.Compare a [.Eq] [b] pos) m (fBin (gEqA false) f f') := de_cmp op_eq op2_eqA ha hb (nomark _)
theorem de_ne (ha : DE X B a m1 f) (hb : DE X B b m2 f') : DE X B (.Compare a [.NotEq] [b] pos) m (fBin (gEqA true) f f') := de_cmp op_ne op2_neA ha hb (nomark _)
theorem dt_eq (ha : DE X B a m1 f) (hb : DE X B b m2 f') : DT X B (.Compare a [.Eq] [b] pos) (fBool (fBin (gEqA false) f f')) := dt_cmp .rd op_eq op2_eqA ha hb (nomark _)
theorem dt_ne (ha : DE X B a m1 f) (hb : DE X B b m2 f') : DT X B (.Compare a [.NotEq] [b] pos) (fBool (fBin (gEqA true) f f')) := dt_cmp .rd op_ne op2_neA ha hb (nomark _)
theorem de_eqD (hu : X.A.units + 64 < cLine) (ha : DE X B a m1 f) (hb : DE X B b m2 f') : DE X B (.Compare a [.Eq] [b] pos) m (fBin (gEqD false) f f') := de_cmp (op_eqD hu) op2_eqD ha hb (nomark _)
theorem de_neD (hu : X.A.units + 64 < cLine) (ha : DE X B a m1 f) (hb : DE X B b m2 f') : DE X B (.Compare a [.NotEq] [b] pos) m (fBin (gEqD true) f f') := de_cmp (op_neD hu) op2_neD ha hb (nomark _)
theorem dt_eqD (hu : X.A.units + 64 < cLine) (ha : DE X B a m1 f) (hb : DE X B b m2 f') : DT X B (.Compare a [.Eq] [b] pos) (fBool (fBin (gEqD false) f f')) := dt_cmp .rd (op_eqD hu) op2_eqD ha hb (nomark _)
theorem dt_neD (hu : X.A.units + 64 < cLine) (ha : DE X B a m1 f) (hb : DE X B b m2 f') : DT X B (.Compare a [.NotEq] [b] pos) (fBool (fBin (gEqD true) f f')) := dt_cmp .rd (op_neD hu) op2_neD ha hb (nomark _)
theorem dt_lt (ha : DE X B a m1 f) (hb : DE X B b m2 f') : DT X B (.Compare a [.Lt] [b] pos) (fBool (fBin gLt f f')) := dt_cmp .rd op_lt op2B0 ha hb (nomark _)
theorem dt_le (ha : DE X B a m1 f) (hb : DE X B b m2 f') : DT X B (.Compare a [.LtE] [b] pos) (fBool (fBin gLe f f')) := dt_cmp .rd op_le op2B0 ha hb (nomark _)
theorem dt_gt (ha : DE X B a m1 f) (hb : DE X B b m2 f') : DT X B (.Compare a [.Gt] [b] pos) (fBool (fBin gGt f f')) := dt_cmp .rd op_gt op2B0 ha hb (nomark _)
theorem dt_ge (ha : DE X B a m1 f) (hb : DE X B b m2 f') : DT X B (.Compare a [.GtE] [b] pos) (fBool (fBin gGe f f')) := dt_cmp .rd op_ge op2B0 ha hb (nomark _)
/-- is None -/
def gIsN (n : Bool) : D → D → (D → Prop) → Prop
  | .raw _, _, _ => False
  | .non, .non, R => R (.bl (!n))
  | _, .non, R => R (.bl n)
  | _, _, _ => False
theorem isN_ref {K : PySem.W.Frag} {G : Hp} {v : V} {d : D} (r : R K G v d) (h : d ≠ .non) (h2 : ∀ w, d ≠ .raw w) : decide (v = .non) = false := by
  cases r <;> first | exact absurd rfl h | rfl | exact absurd rfl (h2 _)
theorem op2_isN {K : PySem.W.Frag} {n : Bool} : Op2 K (fun x y H Q => y = .non ∧ Q (.bl (n ^^ decide (x = .non))) H) m1 m2 m (gIsN n) := by
  intro B F H x y d e fp R Q w ⟨f1, f2, ef, h1, h2⟩ hf hg k
  subst ef
  have r1 := h1.rd w fun a ha => (hf.1 a (List.mem_append_left _ ha)).2
  cases e <;> try (cases d <;> exact (show False from hg).elim)
  obtain ⟨rfl, _⟩ := h2.non
  refine ⟨rfl, ?_⟩
  cases d
  case non =>
    obtain ⟨rfl, _⟩ := h1.non
    exact k.bl w (by cases n <;> exact hg)
  case raw => exact (show False from hg).elim
  all_goals (rw [isN_ref r1 (by intro z; cases z) (by intro w z; cases z)]; exact k.bl w (by cases n <;> exact hg))
theorem op_isN' : OpR X (compareOp .Is) (fun x y H Q => y = .non ∧ Q (.bl (false ^^ decide (x = .non))) H) := fun pins s σ H x y v u Q I rx ry ⟨h1, h2⟩ => op_isN pins s σ H x y v u Q I rx ry ⟨h1, by simpa using h2⟩
theorem op_notN' : OpR X (compareOp .IsNot) (fun x y H Q => y = .non ∧ Q (.bl (true ^^ decide (x = .non))) H) := fun pins s σ H x y v u Q I rx ry ⟨h1, h2⟩ => op_notN pins s σ H x y v u Q I rx ry ⟨h1, by simpa using h2⟩
theorem de_is (ha : DE X B a m1 f) (hb : DE X B b m2 f') : DE X B (.Compare a [.Is] [b] pos) m (fBin (gIsN false) f f') := de_cmp op_isN' op2_isN ha hb (nomark _)
theorem de_isnot (ha : DE X B a m1 f) (hb : DE X B b m2 f') : DE X B (.Compare a [.IsNot] [b] pos) m (fBin (gIsN true) f f') := de_cmp op_notN' op2_isN ha hb (nomark _)
theorem dt_is (ha : DE X B a m1 f) (hb : DE X B b m2 f') : DT X B (.Compare a [.Is] [b] pos) (fBool (fBin (gIsN false) f f')) := dt_cmp .rd op_isN' op2_isN ha hb (nomark _)
theorem dt_isnot (ha : DE X B a m1 f) (hb : DE X B b m2 f') : DT X B (.Compare a [.IsNot] [b] pos) (fBool (fBin (gIsN true) f f')) := dt_cmp .rd op_notN' op2_isN ha hb (nomark _)
end
end GK

namespace GK
open PySem PySem.Spec PyProof.Rows L2

/-! ### items -/
def gIxL : D → D → (D → Prop) → Prop
  | .lst ds, .int i, R => ∃ d, atI ds i = some d ∧ R d
  | _, _, _ => False
def gIxT : D → D → (D → Prop) → Prop
  | .tup ds, .int i, R => ∃ d, atI ds i = some d ∧ R d
  | _, _, _ => False
def gIxS : D → D → (D → Prop) → Prop
  | .str z, .int i, R => z.length ≤ sizeLine ∧ ∃ c, atI z.cps.toList i = some c ∧ R (.str ⟨#[c]⟩)
  | _, _, _ => False
/-- list, tuple or text -/
def gIx : D → D → (D → Prop) → Prop
  | .lst ds, .int i, R => ∃ d, atI ds i = some d ∧ R d
  | .tup ds, .int i, R => ∃ d, atI ds i = some d ∧ R d
  | _, _, _ => False
theorem atI_same {α β : Type} {xs : List α} {ys : List β} {i : Int} {d : β} (h : xs.length = ys.length) (e : atI ys i = some d) : ∃ j : Nat, ys[j]? = some d ∧ ∀ x, xs[j]? = some x → atI xs i = some x := by
  unfold atI at e ⊢
  rw [h]
  cases q : ixN ys.length i with
  | none => rw [q] at e; cases e
  | some j =>
    rw [q] at e
    exact ⟨j, e, fun x hx => hx⟩
section
variable {K : PySem.W.Frag} {m m2 : Mode}
theorem op2_ix (hm : m.look = true) : Op2 K (rIx K) m m2 m.child gIx := by
  intro B F H x y d e fp R Q w ⟨f1, f2, ef, h1, h2⟩ _ hg k
  cases d <;> cases e <;> try exact (show False from hg).elim
  · obtain ⟨c, hc, hR⟩ := hg
    obtain ⟨rfl, _⟩ := h2.int
    obtain ⟨_, a, vs, rfl, hs, it⟩ := h1.tup hm w
    obtain ⟨j, e1, e2⟩ := atI_same it.1 hc
    obtain ⟨v, e3, hv⟩ := it.2 j c e1
    exact .inr (.inl ⟨a, vs, _, v, rfl, rfl, hs, e2 v e3, k.val w hv hR⟩)
  · obtain ⟨c, hc, hR⟩ := hg
    obtain ⟨rfl, _⟩ := h2.int
    obtain ⟨_, a, vs, rfl, hs, it⟩ := h1.lst hm w
    obtain ⟨j, e1, e2⟩ := atI_same it.1 hc
    obtain ⟨v, e3, hv⟩ := it.2 j c e1
    exact .inl ⟨a, vs, _, v, rfl, rfl, hs, e2 v e3, k.val w hv hR⟩
theorem op2_ixS {m1 : Mode} : Op2 K rIxS m1 m2 m gIxS := by
  intro B F H x y d e fp R Q w ⟨f1, f2, ef, h1, h2⟩ _ hg k
  cases d <;> cases e <;> try exact (show False from hg).elim
  obtain ⟨hz, c, hc, hR⟩ := hg
  obtain ⟨rfl, _⟩ := h1.str
  obtain ⟨rfl, _⟩ := h2.int
  exact ⟨_, _, c, rfl, rfl, hz, hc, k.str w hR⟩
end
section
variable {X : Cx} {a b : Expr} {pos : Pos} {m m1 m2 : Mode} {f f' : FE}
/-- xs[i], t[i] -/
theorem de_at (ha : DE X B a m f) (hb : DE X B b m2 f') (hm : m.look = true := by rfl) (hs : PlainIx b := by exact fun _ _ => rfl) : DE X B (.Subscript a b pos) m.child (fBin gIx f f') := de_ix ix_seq (op2_ix hm) ha hb hs
theorem de_atS (ha : DE X B a m1 f) (hb : DE X B b m2 f') (hs : PlainIx b := by exact fun _ _ => rfl) : DE X B (.Subscript a b pos) m (fBin gIxS f f') := de_ix ix_str op2_ixS ha hb hs
end

/-! ### dicts, read -/
def lookD : D → D → Option (Option D)
  | .dK es, k => (keyOf k).map (getD' es)
  | .dT es, k => (keyT k).map (getD' es)
  | _, _ => none
theorem look_ok {K : PySem.W.Frag} {m mk : Mode} {B f1 f2 : List Addr} {F H : Hp} {v kv : V} {d kd : D} {o : Option D} (hm : m.look = true) (w : WF B F H) (hv : Val K m B F H v d f1) (hk : R K (rdH B H) kv kd) (h : lookD d kd = some o) :
    ∃ a ov, v = .ref a ∧ DGet H a kv ov ∧ IsD H a ∧ ((o = none ∧ ov = none) ∨ ∃ x y, o = some x ∧ ov = some y ∧ Val K m.child B F H y x []) := by
  cases d <;> try (cases h; done)
  · rename_i es
    obtain ⟨k, ek, eo⟩ := Option.map_eq_some_iff.mp h
    subst eo
    obtain ⟨_, a, kvs, rfl, hr, hk', it⟩ := hv.dK hm w
    have e := keyOf_R ek hk
    subst e
    refine ⟨a, valV kvs k, rfl, .inl ⟨kvs, k, hr, rfl, rfl⟩, .inl ⟨kvs, hr⟩, ?_⟩
    rcases val_get (k := k) hk' with ⟨h1, h2⟩ | ⟨i, y, x, h1, h2, h3, h4⟩
    · exact .inl ⟨h2, h1⟩
    · obtain ⟨y', e3, hy⟩ := it.2 i x h4
      rw [h3] at e3; cases e3
      exact .inr ⟨x, y, h2, h1, hy⟩
  · rename_i es
    obtain ⟨k, ek, eo⟩ := Option.map_eq_some_iff.mp h
    subst eo
    obtain ⟨_, a, kvs, rfl, hr, hk', it⟩ := hv.dT hm w
    cases kd <;> try (cases ek; done)
    rename_i js
    obtain ⟨b, ws, rfl, ht, rl⟩ := hk.tupI
    have e : ws = k.map kV := keysOf_R ek rl
    subst e
    refine ⟨a, valV kvs k, rfl, .inr ⟨kvs, k, b, hr, rfl, tup_of w ht, rfl⟩, .inr ⟨kvs, hr⟩, ?_⟩
    rcases val_get (k := k) hk' with ⟨h1, h2⟩ | ⟨i, y, x, h1, h2, h3, h4⟩
    · exact .inl ⟨h2, h1⟩
    · obtain ⟨y', e3, hy⟩ := it.2 i x h4
      rw [h3] at e3; cases e3
      exact .inr ⟨x, y, h2, h1, hy⟩
theorem DGet.step {H H' : Hp} {B A : List Addr} {F F' : Hp} {a : Addr} {kv : V} {o : Option V} (s : Step B A F H F' H') (g : DGet H a kv o) (ha : a ∉ B) (hb : ∀ b, kv = .ref b → b ∉ B) : DGet H' a kv o := by
  have rd : ∀ {u : HO}, Rd H a u → Rd H' a u := fun {u} r => r.imp (s.same a _ ha) fun ⟨ob, e⟩ => ⟨ob, s.same a _ ha e⟩
  rcases g with ⟨kvs, k, h1, h2, h3⟩ | ⟨kvs, k, b, h1, h2, h3, h4⟩
  · exact .inl ⟨kvs, k, rd h1, h2, h3⟩
  · exact .inr ⟨kvs, k, b, rd h1, h2, s.same b _ (hb b h2) h3, h4⟩
def gDGet (d k : D) (R : D → Prop) : Prop := ∃ x, lookD d k = some (some x) ∧ R x
def gDIn (n : Bool) (k d : D) (R : D → Prop) : Prop := ∃ o, lookD d k = some o ∧ R (.bl (n ^^ o.isSome))
section
variable {K : PySem.W.Frag} {m m1 m2 : Mode}
theorem op2_dget (hm : m.look = true) : Op2 K (fun x y H Q => ∃ a v, x = .ref a ∧ DGet H a y (some v) ∧ Q v H) m m2 m.child gDGet := by
  intro B F H x y d e fp R Q w ⟨f1, f2, ef, h1, h2⟩ hf ⟨z, hz, hR⟩ k
  subst ef
  have r2 := h2.rd w fun a ha => (hf.1 a (List.mem_append_right _ ha)).2
  obtain ⟨a, ov, rfl, g, _, h⟩ := look_ok (m := m) (mk := m2) (f2 := f2) hm w h1 r2 hz
  rcases h with ⟨q, _⟩ | ⟨x', y', e1, e2, hv⟩
  · cases q
  · cases e1
    rw [e2] at g
    exact ⟨a, y', rfl, g, k.val w hv hR⟩
theorem op2_din (hm : m.look = true) {n : Bool} : Op2 K (fun y x H Q => ∃ a o, x = .ref a ∧ DGet H a y o ∧ Q (.bl (n ^^ o.isSome)) H) m2 m m1 (gDIn n) := by
  intro B F H x y d e fp R Q w ⟨f1, f2, ef, h1, h2⟩ hf ⟨o, hz, hR⟩ k
  subst ef
  have r1 := h1.rd w fun a ha => (hf.1 a (List.mem_append_left _ ha)).2
  obtain ⟨a, ov, rfl, g, _, h⟩ := look_ok (m := m) (mk := m2) (f2 := f1) hm w h2 r1 hz
  refine ⟨a, ov, rfl, g, k.bl w ?_⟩
  rcases h with ⟨q, q'⟩ | ⟨x', y', e1, e2, hv⟩
  · rw [q'] ; rw [q] at hR; exact hR
  · rw [e2]; rw [e1] at hR; exact hR
end
section
variable {X : Cx} {a b c : Expr} {pos apos cpos : Pos} {m m0 m1 m2 m3 : Mode} {f f' f'' : FE}
/-- d[k] -/
theorem de_dget (hu : X.A.units + 1 < cLine) (ha : DE X B a m f) (hb : DE X B b m2 f') (hm : m.look = true := by rfl) (hs : NoSl b := by exact fun _ _ => rfl) : DE X B (.Subscript a b pos) m.child (fBin gDGet f f') :=
  PE.imp (pe_dget hu ha hb hs) fun _ _ _ q => tD_bin (r := fun x y H Q => ∃ a v, x = .ref a ∧ DGet H a y (some v) ∧ Q v H) (op2_dget hm) q
theorem tD_in {K : PySem.W.Frag} {σ : L2.St} {H : Hp} {Q : VK} {n : Bool} (hm : m.look = true) (q : tD K B m1 (fBin (gDIn n) f f') σ H Q) : tD K B m2 f σ H fun y H1 => tD K B m f' σ H1 fun x H2 => ∃ a o, x = .ref a ∧ DGet H2 a y o ∧ Q (.bl (n ^^ o.isSome)) H2 :=
  tD_bin (r := fun y x H Q => ∃ a o, x = .ref a ∧ DGet H a y o ∧ Q (.bl (n ^^ o.isSome)) H) (op2_din hm) q
theorem pc_din' {i o : Expr} {ty td : TE} (hu : X.A.units + 1 < cLine) (hi : PE X i ty) (ho : PE X o td) : PC X .In i o (fun σ H Q => ty σ H fun y H1 => td σ H1 fun x H2 => ∃ a o, x = .ref a ∧ DGet H2 a y o ∧ Q (.bl (false ^^ o.isSome)) H2) := by
  have h := pc_din hu hi ho
  unfold tDIn at h
  simpa using h
theorem pc_dnotin' {i o : Expr} {ty td : TE} (hu : X.A.units + 1 < cLine) (hi : PE X i ty) (ho : PE X o td) : PC X .NotIn i o (fun σ H Q => ty σ H fun y H1 => td σ H1 fun x H2 => ∃ a o, x = .ref a ∧ DGet H2 a y o ∧ Q (.bl (true ^^ o.isSome)) H2) := by
  have h := pc_dnotin hu hi ho
  unfold tDNotIn at h
  simpa using h
/-- k in d -/
theorem de_din (hu : X.A.units + 1 < cLine) (hb : DE X B b m2 f) (ha : DE X B a m f') (hm : m.look = true := by rfl) (h1 : behindInMarks .In a = false := by rfl) : DE X B (.Compare b [.In] [a] pos) m1 (fBin (gDIn false) f f') :=
  PE.imp (pe_cmp (pc_din' hu hb ha) h1) fun _ _ _ q => tD_in hm q
theorem de_dnotin (hu : X.A.units + 1 < cLine) (hb : DE X B b m2 f) (ha : DE X B a m f') (hm : m.look = true := by rfl) (h1 : behindInMarks .NotIn a = false := by rfl) : DE X B (.Compare b [.NotIn] [a] pos) m1 (fBin (gDIn true) f f') :=
  PE.imp (pe_cmp (pc_dnotin' hu hb ha) h1) fun _ _ _ q => tD_in hm q
theorem dt_din (hu : X.A.units + 1 < cLine) (hb : DE X B b m2 f) (ha : DE X B a m f') (hm : m.look = true := by rfl) (h1 : behindInMarks .In a = false := by rfl) : DT X B (.Compare b [.In] [a] pos) (fBool (fBin (gDIn false) f f')) :=
  PT.imp (pt_cmp (pc_din' hu hb ha) h1) fun _ _ _ q => tD_in (m1 := .rd) hm (tD_bool q)
theorem dt_dnotin (hu : X.A.units + 1 < cLine) (hb : DE X B b m2 f) (ha : DE X B a m f') (hm : m.look = true := by rfl) (h1 : behindInMarks .NotIn a = false := by rfl) : DT X B (.Compare b [.NotIn] [a] pos) (fBool (fBin (gDIn true) f f')) :=
  PT.imp (pt_cmp (pc_dnotin' hu hb ha) h1) fun _ _ _ q => tD_in (m1 := .rd) hm (tD_bool q)
/-- d.get(k, x): what is found and what stands in its place may be read -/
def gDGet2 (d k x : D) (R : D → Prop) : Prop := ∃ o, lookD d k = some o ∧ R (o.getD x)
def isDctD : D → Prop
  | .dK _ => True
  | .dT _ => True
  | _ => False
theorem isDctD.of {K : PySem.W.Frag} {B f1 : List Addr} {F H : Hp} {v : V} {d : D} (hm : m.look = true) (w : WF B F H) (hv : Val K m B F H v d f1) (h : isDctD d) : ∃ a, v = .ref a ∧ IsD H a ∧ a ∉ B := by
  have nb : ∀ {a : Addr}, (∃ u, rdH B H a = some u) → a ∉ B := fun ⟨u, e⟩ => (rdH_some e).1
  cases d <;> try exact (show False from h).elim
  · have r := hv.rd w (fun a ha => by
      obtain ⟨e, _⟩ := hv.dK hm w
      rw [e] at ha; cases ha)
    obtain ⟨a, kvs, rfl, hr, _⟩ := r.dKI
    exact ⟨a, rfl, .inl ⟨kvs, rd_of_rdH hr⟩, nb ⟨_, hr⟩⟩
  · have r := hv.rd w (fun a ha => by
      obtain ⟨e, _⟩ := hv.dT hm w
      rw [e] at ha; cases ha)
    obtain ⟨a, kvs, rfl, hr, _⟩ := r.dTI
    exact ⟨a, rfl, .inr ⟨kvs, rd_of_rdH hr⟩, nb ⟨_, hr⟩⟩
theorem look_isDct {d k : D} {o : Option D} (h : lookD d k = some o) : isDctD d := by
  cases d <;> first | trivial | (cases h)
theorem de_dget2 (hu : X.A.units + 1 < cLine) (ha : DE X B a m f) (hb : DE X B b .rd f') (hc : DE X B c m.child f'') (hm : m.look = true := by rfl) (hl : ∀ n, m.child ≠ .own (n + 1) := by intro _ z; cases z)
    (M : M2 X a "get" apos b c cpos := by exact ⟨rfl, rfl, rfl, rfl⟩) : DE X B (.Call (.Attribute a "get" apos) [b, c] [] cpos) m.child (fun ρ R => f ρ fun d => isDctD d ∧ f' ρ fun k => f'' ρ fun x => gDGet2 d k x R) :=
  PE.imp (pe_dget2 hu ha hb hc M) fun σ H Q ⟨F, ρ, fp, R, S, hf, k⟩ => by
    refine ⟨F, ρ, fp, _, S, hf, fun F1 H1 v d f1 s1 hv o1 n1 ⟨hd, hg⟩ => ?_⟩
    obtain ⟨a, rfl, hd', haB⟩ := isDctD.of hm s1.wf hv hd
    refine ⟨a, rfl, hd', F1, ρ, fp, _, S.step s1 (fun a ha => by cases ha), hg, fun F2 H2 kv kd f2 s2 hkv o2 n2 hg2 => ?_⟩
    refine ⟨F2, ρ, fp, _, (S.step s1 (fun a ha => by cases ha)).step s2 (fun a ha => by cases ha), hg2, fun F3 H3 xv xd f3 s3 hxv o3 n3 ⟨o, ho, hR⟩ => ?_⟩
    have hv3 := (hv.step s2 fun a ha => (o1 a ha).2.2).step s3 fun a ha => (o1 a ha).2.2
    have hk3 : GK.R X.K (rdH B H3) kv kd := hkv.1.mono (rdH_same s3.same)
    obtain ⟨a', ov, ea, g, _, h⟩ := look_ok (m := m) (mk := .rd) (f2 := []) hm s3.wf hv3 hk3 ho
    cases ea
    have k3 := ((k.after s1 (A1 := []) fun a h => by cases h).after s2 (A1 := []) fun a h => by cases h).after s3 (A1 := f3) fun a ha => (o3 a ha).1
    refine ⟨ov, g, ?_⟩
    rcases h with ⟨q, q'⟩ | ⟨x', y', e1, e2, hy⟩
    · rw [q']
      rw [q] at hR
      exact k3 F3 H3 xv xd f3 (Step.refl s3.wf) hxv (fun a ha => ⟨.inl ha, (o3 a ha).2⟩) n3 hR
    · rw [e2]
      rw [e1] at hR
      exact k3.val s3.wf hy hR
/-- {} -/
theorem de_dnewK (n : Nat) : DE X B (.Dict [] [] pos) (.own (n + 1)) (fun _ R => R (.dK [])) := PE.imp pe_dnewK fun σ H Q ⟨F, ρ, fp, R, S, hf, k⟩ p hp => by
  refine k F _ _ (.dK []) [p] (Step.laid S.wf hp rfl) ⟨p, [], [], rfl, upd_same, rfl, rfl, rfl⟩ (fun a ha => ?_) (by simp) hf
  have e : a = p := by simpa using ha
  subst e
  exact ⟨.inr hp, F_none S.wf hp, S.wf.notB hp⟩
theorem de_dnewT (n : Nat) : DE X B (.Dict [] [] pos) (.own (n + 1)) (fun _ R => R (.dT [])) := PE.imp pe_dnewT fun σ H Q ⟨F, ρ, fp, R, S, hf, k⟩ p hp => by
  refine k F _ _ (.dT []) [p] (Step.laid S.wf hp rfl) ⟨p, [], [], rfl, upd_same, rfl, rfl, rfl⟩ (fun a ha => ?_) (by simp) hf
  have e : a = p := by simpa using ha
  subst e
  exact ⟨.inr hp, F_none S.wf hp, S.wf.notB hp⟩
end
end GK

namespace GK
open PySem PySem.Spec PyProof.Rows L2

/-! ### calls of built-ins -/
section
variable {K : PySem.W.Frag} {m : Mode} {ms : List Mode} {σ : L2.St} {H : Hp}
theorem tD_args {r : List V → Hp → VK → Prop} {g : List D → (D → Prop) → Prop} {fs : FA} {Q : VK} (hr : OpN K r ms m g) (h : tD K B m (fArgs g fs) σ H Q) : tDA K B ms fs σ H fun vs H1 => r vs H1 Q := by
  obtain ⟨F, ρ, fp, R, S, hf, k⟩ := h
  exact ⟨F, ρ, fp, _, S, hf, fun F1 H1 vs ds fp1 s1 hv o1 n1 hg => hr B F1 H1 vs ds fp1 R Q s1.wf hv ⟨fun a ha => (o1 a ha).2, n1⟩ hg (k.after s1 fun a ha => (o1 a ha).1)⟩
end
section
variable {X : Cx} {e : Expr} {es : List Expr} {x : Str} {p pos apos cpos : Pos} {m m1 m2 : Mode} {ms : List Mode} {fs : FA} {f f' : FE} {id T : String} {r : List V → Hp → VK → Prop} {g : List D → (D → Prop) → Prop}
theorem de_B (hc : CallR X (.builtin id) r) (hr : OpN X.K r ms m g) (hg : Gl X x) (hm : X.mg x = none) (hv : bootBuiltins x = some (.builtin id)) (ha : DA X B (e :: es) ms fs) (hn : x ≠ "__name__" := by decide) (hdb : (x == ("__debug__" : Str)) = false := by decide)
    (he : starEach (e :: es) X.env = (false, eval e X.env) :: starEach es X.env := by rfl) (hpl : (backTo pos (starEach es X.env)).any (·.1) = false := by rfl) : DE X B (.Call (.Name x p) (e :: es) [] pos) m (fArgs g fs) :=
  PE.imp (pe_callB hc hg hm hv ha hn hdb he hpl) fun _ _ _ q => tD_args hr q
theorem de_Ty (hc : CallR X (.type T) r) (hr : OpN X.K r ms m g) (hg : Gl X x) (hm : X.mg x = none) (hv : bootBuiltins x = some (.type T)) (ha : DA X B (e :: es) ms fs) (hn : x ≠ "__name__" := by decide) (hdb : (x == ("__debug__" : Str)) = false := by decide)
    (he : starEach (e :: es) X.env = (false, eval e X.env) :: starEach es X.env := by rfl) (hpl : (backTo pos (starEach es X.env)).any (·.1) = false := by rfl) : DE X B (.Call (.Name x p) (e :: es) [] pos) m (fArgs g fs) :=
  PE.imp (pe_callTy hc hg hm hv ha hn hdb he hpl) fun _ _ _ q => tD_args hr q
/-- a built-in method that changes nothing of ours -/
def OpM (K : PySem.W.Frag) (T : String) (r : V → List V → Hp → VK → Prop) (m1 : Mode) (ms : List Mode) (m : Mode) (g0 : D → Prop) (g : D → List D → (D → Prop) → Prop) : Prop :=
  (∀ B F H x d fp, WF B F H → Val K m1 B F H x d fp → Fp B F fp → g0 d → tyV K T x H) ∧
  ∀ B F H x d vs ds fp R Q, WF B F H → (∃ f1 f2, fp = f1 ++ f2 ∧ Val K m1 B F H x d f1 ∧ ValL K B F H ms vs ds f2) → Fp B F fp → g d ds R → Post K B fp F H m R Q → r x vs H Q
theorem tD_meth {K : PySem.W.Frag} {σ : L2.St} {H : Hp} {Q : VK} {r : V → List V → Hp → VK → Prop} {g0 : D → Prop} {g : D → List D → (D → Prop) → Prop} (hr : OpM K T r m1 ms m g0 g) (h : tD K B m (fun ρ R => f ρ fun d => g0 d ∧ fs ρ fun ds => g d ds R) σ H Q) :
    tD K B m1 f σ H fun x H1 => tyV K T x H1 ∧ tDA K B ms fs σ H1 fun xs H2 => r x xs H2 Q := by
  obtain ⟨F, ρ, fp, R, S, hf, k⟩ := h
  refine ⟨F, ρ, fp, _, S, hf, fun F1 H1 v1 d1 fp1 s1 hv1 o1 n1 ⟨h0, hg1⟩ => ⟨hr.1 B F1 H1 v1 d1 fp1 s1.wf hv1 ⟨fun a ha => (o1 a ha).2, n1⟩ h0, ?_⟩⟩
  refine ⟨F1, ρ, fp, _, S.step s1 (fun a ha => by cases ha), hg1, fun F2 H2 v2 d2 fp2 s2 hv2 o2 n2 hg2 => ?_⟩
  have t1 := hv1.there
  have nn : ∀ a ∈ fp1, F2 a = none := fun a ha => by
    obtain ⟨o, e, mu⟩ := t1 a ha
    exact s2.out e mu (o1 a ha).2.2 (o1 a ha).2.1 fun z => by cases z
  refine hr.2 B F2 H2 v1 d1 v2 d2 (fp1 ++ fp2) R Q s2.wf ⟨fp1, fp2, rfl, hv1.step s2 fun a ha => (o1 a ha).2.2, hv2⟩ ⟨fun a ha => ?_, ?_⟩ hg2 ((k.after s1 (A1 := fp1) fun a ha => (o1 a ha).1).after (s2.weak fun a ha => by cases ha) fun a ha => ?_)
  · rcases List.mem_append.mp ha with z | z
    · exact ⟨nn a z, (o1 a z).2.2⟩
    · exact (o2 a z).2
  · refine List.nodup_append.mpr ⟨n1, n2, fun a ha b hb e => ?_⟩
    subst e
    obtain ⟨o, e, mu⟩ := t1 a ha
    rcases (o2 a hb).1 with z | z
    · cases z
    · rw [e] at z; cases z
  · rcases List.mem_append.mp ha with z | z
    · exact .inl z
    · exact .inr ((o2 a z).1.elim (fun z => by cases z) id)
theorem de_M {o : Expr} {name : Str} {r : V → List V → Hp → VK → Prop} {g0 : D → Prop} {g : D → List D → (D → Prop) → Prop} (pa : PlainAttrs T) (slot : Slot T name id) (hty : typeOf (.builtin id) = pure (.type "method_descriptor")) (hm : MtR X id r) (hr : OpM X.K T r m1 ms m g0 g)
    (ho : DE X B o m1 f) (ha : DA X B (e :: es) ms fs) (hb : BmOk X o name apos e es cpos := by exact ⟨rfl, rfl, rfl, rfl, rfl⟩) : DE X B (.Call (.Attribute o name apos) (e :: es) [] cpos) m (fun ρ R => f ρ fun d => g0 d ∧ fs ρ fun ds => g d ds R) :=
  PE.imp (pe_bm pa slot hty hm ho ha hb.1 hb.2 hb.3 hb.4 hb.5) fun _ _ _ q => tD_meth hr q
end
/-! ### len, int, max, min -/
def gLen : List D → (D → Prop) → Prop
  | [.lst ds], R => R (.int ds.length)
  | [.tup ds], R => R (.int ds.length)
  | [.str s], R => s.length ≤ sizeLine ∧ R (.int s.length)
  | [.dK es], R => R (.int es.length)
  | _, _ => False
def gInt : List D → (D → Prop) → Prop
  | [.int i], R => R (.int i)
  | _, _ => False
def gMax2 : List D → (D → Prop) → Prop
  | [.int i, .int j], R => R (.int (if j > i then j else i))
  | _, _ => False
def gMin2 : List D → (D → Prop) → Prop
  | [.int i, .int j], R => R (.int (if j < i then j else i))
  | _, _ => False
theorem ValL.one {K : PySem.W.Frag} {B fp : List Addr} {F H : Hp} {m : Mode} {vs : List V} {d : D} (h : ValL K B F H [m] vs [d] fp) : ∃ v, vs = [v] ∧ Val K m B F H v d fp := by
  cases vs with
  | nil => cases h
  | cons v r =>
    cases r with
    | nil =>
      obtain ⟨f1, f2, e, h1, h2⟩ := h
      have e2 : f2 = [] := h2
      subst e2
      rw [List.append_nil] at e
      subst e
      exact ⟨v, rfl, h1⟩
    | cons w r => obtain ⟨f1, f2, e, h1, h2⟩ := h; cases h2
theorem ValL.two {K : PySem.W.Frag} {B fp : List Addr} {F H : Hp} {m m' : Mode} {vs : List V} {d d' : D} (h : ValL K B F H [m, m'] vs [d, d'] fp) : ∃ v v' f f', vs = [v, v'] ∧ Val K m B F H v d f ∧ Val K m' B F H v' d' f' ∧ fp = f ++ f' := by
  cases vs with
  | nil => cases h
  | cons v r =>
    obtain ⟨f1, f2, e, h1, h2⟩ := h
    obtain ⟨v', rfl, h3⟩ := ValL.one h2
    exact ⟨v, v', f1, f2, rfl, h1, h3, e⟩
section
variable {X : Cx} {e e2 : Expr} {x : Str} {p pos apos cpos : Pos} {m m1 m2 : Mode} {fs : FA} {f f' : FE}
theorem call_lenK : CallR X (.builtin "len") (fun xs H Q => ∃ a kvs, xs = [.ref a] ∧ Rd H a (.dK kvs) ∧ Q (.int kvs.length) H) := by
  intro pins s σ H xs us Q I r h
  obtain ⟨a, kvs, rfl, h, q⟩ := h
  obtain ⟨u, rfl, rx⟩ := r.one
  obtain rfl : u = Value.ref a := rx
  exact d_len I h fun t s' I' => ⟨.int _, H, I', ⟨_, rfl⟩, q⟩
theorem call_len' : CallR X (.builtin "len") (fun xs H Q => (∃ p ys, xs = [.ref p] ∧ (SqL X.K H p ys ∨ SqT X.K H p ys) ∧ Q (.int ys.length) H) ∨ (∃ z, xs = [.str z] ∧ z.length ≤ sizeLine ∧ Q (.int z.length) H) ∨ ∃ a kvs, xs = [.ref a] ∧ Rd H a (.dK kvs) ∧ Q (.int kvs.length) H) :=
  call_len_seq.or (call_len_str.or call_lenK)
theorem opN_len {K : PySem.W.Frag} (hm : m1.look = true) : OpN K (fun xs H Q => (∃ p ys, xs = [.ref p] ∧ (SqL K H p ys ∨ SqT K H p ys) ∧ Q (.int ys.length) H) ∨ (∃ z, xs = [.str z] ∧ z.length ≤ sizeLine ∧ Q (.int z.length) H) ∨ ∃ a kvs, xs = [.ref a] ∧ Rd H a (.dK kvs) ∧ Q (.int kvs.length) H) [m1] m gLen := by
  intro B F H vs ds fp R Q w hv hf hg k
  unfold gLen at hg
  split at hg
  · obtain ⟨v, rfl, h⟩ := hv.one
    obtain ⟨_, a, ws, rfl, hs, it⟩ := h.lst hm w
    exact .inl ⟨a, ws, rfl, .inl hs, by rw [it.1]; exact k.int w hg⟩
  · obtain ⟨v, rfl, h⟩ := hv.one
    obtain ⟨_, a, ws, rfl, hs, it⟩ := h.tup hm w
    exact .inl ⟨a, ws, rfl, .inr hs, by rw [it.1]; exact k.int w hg⟩
  · obtain ⟨v, rfl, h⟩ := hv.one
    obtain ⟨rfl, _⟩ := h.str
    exact .inr (.inl ⟨_, rfl, hg.1, k.int w hg.2⟩)
  · obtain ⟨v, rfl, h⟩ := hv.one
    obtain ⟨_, a, kvs, rfl, hr, hk, it⟩ := h.dK hm w
    have hlen := congrArg List.length hk
    rw [List.length_map, List.length_map] at hlen
    exact .inr (.inr ⟨a, kvs, rfl, hr, by rw [hlen]; exact k.int w hg⟩)
  · exact hg.elim
theorem opN_int {K : PySem.W.Frag} : OpN K (fun xs H Q => (∃ i, xs = [.int i] ∧ Q (.int i) H) ∨ ∃ k, xs = [.bl k] ∧ Q (.int (if k then 1 else 0)) H) [m1] m gInt := by
  intro B F H vs ds fp R Q w hv hf hg k
  unfold gInt at hg
  split at hg
  · obtain ⟨v, rfl, h⟩ := hv.one
    obtain ⟨rfl, _⟩ := h.int
    exact .inl ⟨_, rfl, k.int w hg⟩
  · exact hg.elim
theorem opN_max2 {K : PySem.W.Frag} : OpN K (fun xs H Q => ∃ i j, xs = [.int i, .int j] ∧ Q (.int (if j > i then j else i)) H) [m1, m2] m gMax2 := by
  intro B F H vs ds fp R Q w hv hf hg k
  unfold gMax2 at hg
  split at hg
  · obtain ⟨v, v', f, f', rfl, h, h', _⟩ := hv.two
    obtain ⟨rfl, _⟩ := h.int
    obtain ⟨rfl, _⟩ := h'.int
    exact ⟨_, _, rfl, k.int w hg⟩
  · exact hg.elim
theorem opN_min2 {K : PySem.W.Frag} : OpN K (fun xs H Q => ∃ i j, xs = [.int i, .int j] ∧ Q (.int (if j < i then j else i)) H) [m1, m2] m gMin2 := by
  intro B F H vs ds fp R Q w hv hf hg k
  unfold gMin2 at hg
  split at hg
  · obtain ⟨v, v', f, f', rfl, h, h', _⟩ := hv.two
    obtain ⟨rfl, _⟩ := h.int
    obtain ⟨rfl, _⟩ := h'.int
    exact ⟨_, _, rfl, k.int w hg⟩
  · exact hg.elim
theorem de_len (hz : X.mg "len" = none) (ha : DE X B e m1 f) (hm : m1.look = true := by rfl) (hg : Gl X "len" := by rfl) (he : starEach [e] X.env = (false, eval e X.env) :: starEach [] X.env := by rfl) (hpl : (backTo pos (starEach [] X.env)).any (·.1) = false := by rfl) :
    DE X B (.Call (.Name "len" p) [e] [] pos) m (fArgs gLen (fCons f fNil)) := de_B call_len' (opN_len hm) hg hz PySem.boot_len (da_cons ha da_nil he) (by decide) (by decide) he hpl
theorem de_int' (hz : X.mg "int" = none) (ha : DE X B e m1 f) (hg : Gl X "int" := by rfl) (he : starEach [e] X.env = (false, eval e X.env) :: starEach [] X.env := by rfl) (hpl : (backTo pos (starEach [] X.env)).any (·.1) = false := by rfl) :
    DE X B (.Call (.Name "int" p) [e] [] pos) m (fArgs gInt (fCons f fNil)) := de_Ty call_int1 opN_int hg hz (by decide +kernel) (da_cons ha da_nil he) (by decide) (by decide) he hpl
theorem de_max2 (hc : X.calm = true) (hz : X.mg "max" = none) (ha : DE X B e m1 f) (hb : DE X B e2 m2 f') (hg : Gl X "max" := by rfl) (he : starEach [e, e2] X.env = (false, eval e X.env) :: starEach [e2] X.env := by rfl) (he2 : starEach [e2] X.env = (false, eval e2 X.env) :: starEach [] X.env := by rfl) (hpl : (backTo pos (starEach [e2] X.env)).any (·.1) = false := by rfl) :
    DE X B (.Call (.Name "max" p) [e, e2] [] pos) m (fArgs gMax2 (fCons f (fCons f' fNil))) := de_B (call_max2 hc) opN_max2 hg hz (by decide +kernel) (da_cons ha (da_cons hb da_nil he2) he) (by decide) (by decide) he hpl
theorem de_min2 (hc : X.calm = true) (hz : X.mg "min" = none) (ha : DE X B e m1 f) (hb : DE X B e2 m2 f') (hg : Gl X "min" := by rfl) (he : starEach [e, e2] X.env = (false, eval e X.env) :: starEach [e2] X.env := by rfl) (he2 : starEach [e2] X.env = (false, eval e2 X.env) :: starEach [] X.env := by rfl) (hpl : (backTo pos (starEach [e2] X.env)).any (·.1) = false := by rfl) :
    DE X B (.Call (.Name "min" p) [e, e2] [] pos) m (fArgs gMin2 (fCons f (fCons f' fNil))) := de_B (call_min2 hc) opN_min2 hg hz (by decide +kernel) (da_cons ha (da_cons hb da_nil he2) he) (by decide) (by decide) he hpl
end

/-! ### lists whose items may be read, and new ones -/
/-- the items of a list may be read -/
def Mode.flat1 : Mode → Bool
  | .own 0 => true
  | .bor 0 => true
  | .bor 1 => true
  | _ => false
theorem Val.lstRL {K : PySem.W.Frag} {B fp : List Addr} {F H : Hp} {m : Mode} {v : V} {ds : List D} (hm : m.flat1 = true) (w : WF B F H) (h : Val K m B F H v (.lst ds) fp) : ∃ a vs, v = .ref a ∧ H a = some (.lst vs) ∧ RL K F vs ds := by
  cases m with
  | rd => cases hm
  | own n =>
    cases n with
    | zero =>
      obtain ⟨a, vs, e, h1, r⟩ := h.1.lstI
      exact ⟨a, vs, e, lst_of w (w.sub _ _ h1), r⟩
    | succ n => cases hm
  | bor n =>
    obtain ⟨⟨f, h, hf⟩, e0⟩ := h
    cases n with
    | zero =>
      obtain ⟨a, vs, e, h1, r⟩ := h.1.lstI
      exact ⟨a, vs, e, lst_of w (w.sub _ _ h1), r⟩
    | succ n =>
      cases n with
      | zero =>
        obtain ⟨a, vs, g, e, h1, ef, t⟩ := h
        exact ⟨a, vs, e, h1, t.toRL0⟩
      | succ n => cases hm
def gCat : D → D → (D → Prop) → Prop
  | .lst xs, .lst ys, R => xs.length + ys.length ≤ sizeLine ∧ R (.lst (xs ++ ys))
  | _, _, _ => False
def gRep : D → D → (D → Prop) → Prop
  | .lst xs, .int k, R => -(2 ^ 63) ≤ k ∧ k < 2 ^ 63 ∧ xs.length * k.toNat ≤ sizeLine ∧ R (.lst (List.replicate k.toNat xs).flatten)
  | _, _, _ => False
theorem RL.rep {K : PySem.W.Frag} {F : Hp} {vs : List V} {ds : List D} (h : RL K F vs ds) : ∀ n : Nat, RL K F (List.replicate n vs).flatten (List.replicate n ds).flatten
  | 0 => .nil
  | n + 1 => by
    rw [List.replicate_succ, List.replicate_succ, List.flatten_cons, List.flatten_cons]
    exact h.append (RL.rep h n)
section
variable {X : Cx} {a b : Expr} {pos : Pos} {m m1 m2 : Mode} {f f' : FE}
/-- xs + ys -/
theorem de_cat (ha : DE X B a m1 f) (hb : DE X B b m2 f') (h1 : m1.flat1 = true := by rfl) (h2 : m2.flat1 = true := by rfl) : DE X B (.BinOp a .Add b pos) (.own 1) (fBin gCat f f') := de_op op_cat (by
  intro B F H x y d e fp R Q w ⟨f1, f2, ef, hx, hy⟩ _ hg k
  cases d <;> cases e <;> try exact (show False from hg).elim
  obtain ⟨p, vs, rfl, hp, r⟩ := hx.lstRL h1 w
  obtain ⟨q, ws, rfl, hq, t⟩ := hy.lstRL h2 w
  exact ⟨p, q, vs, ws, rfl, rfl, hp, hq, by rw [r.length, t.length]; exact hg.1, fun z hz => k.newLst0 w (r.append t) hg.2 hz⟩) ha hb
/-- xs * n -/
theorem de_rep (ha : DE X B a m1 f) (hb : DE X B b m2 f') (h1 : m1.flat1 = true := by rfl) : DE X B (.BinOp a .Mult b pos) (.own 1) (fBin gRep f f') := de_op op_rep (by
  intro B F H x y d e fp R Q w ⟨f1, f2, ef, hx, hy⟩ _ hg k
  cases d <;> cases e <;> try exact (show False from hg).elim
  obtain ⟨p, vs, rfl, hp, r⟩ := hx.lstRL h1 w
  obtain ⟨rfl, _⟩ := hy.int
  exact ⟨p, _, vs, rfl, rfl, hp, hg.1, hg.2.1, by rw [r.length]; exact hg.2.2.1, fun z hz => k.newLst0 w (r.rep _) hg.2.2.2 hz⟩) ha hb
end
/-! slices -/
abbrev FO := Env → (Option Int → Prop) → Prop
def tDO (K : PySem.W.Frag) (B : List Addr) (f : FO) : TO := fun σ H Q => ∃ F ρ fp R, StOk K B [] noH noH F H σ ρ fp ∧ f ρ R ∧ ∀ F' H' o, Step B [] F H F' H' → R o → Q o H'
abbrev DO (X : Cx) (B : List Addr) (e : Option Expr) (f : FO) : Prop := PO X e (tDO X.K B f)
theorem PO.imp {X : Cx} {e : Option Expr} {t t' : TO} (h : PO X e t) (k : ∀ σ H Q, t' σ H Q → t σ H Q) : PO X e t' := ⟨fun pins s σ H Q I q => h.run pins s σ H Q I (k σ H Q q)⟩
def cutD (xs : List D) (lo hi : Option Int) : List D := (xs.drop (HT.sIx xs.length 0 lo)).take (HT.sIx xs.length xs.length hi - HT.sIx xs.length 0 lo)
def iOf (R : Option Int → Prop) : D → Prop
  | .int i => R (some i)
  | _ => False
section
variable {X : Cx} {e : Expr} {lo hi : Option Expr} {pos p2 : Pos} {m m1 : Mode} {f : FE} {fl fh : FO}
theorem do_none : DO X B none (fun _ R => R none) := PO.imp po_none fun σ H Q ⟨F, ρ, fp, R, S, hf, k⟩ => k F H none (Step.refl S.wf) hf
theorem do_some (h : DE X B e m f) : DO X B (some e) (fun ρ R => f ρ (iOf R)) := PO.imp (po_some h) fun σ H Q ⟨F, ρ, fp, R, S, hf, k⟩ => ⟨F, ρ, fp, _, S, hf, fun F' H' v d f' s hv ho hn hR => by
  cases d <;> try exact (show False from hR).elim
  obtain ⟨rfl, _⟩ := hv.int
  exact ⟨_, rfl, k F' H' _ s hR⟩⟩
def gSlL (d : D) (lo hi : Option Int) (R : D → Prop) : Prop := match d with
  | .lst xs => R (.lst (cutD xs lo hi))
  | _ => False
def gSlT (d : D) (lo hi : Option Int) (R : D → Prop) : Prop := match d with
  | .tup xs => R (.tup (cutD xs lo hi))
  | _ => False
def gSlS (d : D) (lo hi : Option Int) (R : D → Prop) : Prop := match d with
  | .str z => z.length ≤ sizeLine ∧ R (.str (cutS z lo hi))
  | _ => False
theorem cut_rl {K : PySem.W.Frag} {F : Hp} {vs : List V} {ds : List D} (h : RL K F vs ds) (lo hi : Option Int) : RL K F (cutV vs lo hi) (cutD ds lo hi) := by
  unfold cutV cutD
  rw [h.length]
  exact (h.drop _).take _
theorem tD_slice {K : PySem.W.Frag} {σ : L2.St} {H : Hp} {Q : VK} {r : V → Option Int → Option Int → Hp → VK → Prop} {g : D → Option Int → Option Int → (D → Prop) → Prop}
    (hr : ∀ B F H x d fp lo hi R Q, WF B F H → Val K m1 B F H x d fp → Fp B F fp → g d lo hi R → Post K B fp F H m R Q → r x lo hi H Q)
    (h : tD K B m (fun ρ R => f ρ fun d => fl ρ fun lo => fh ρ fun hi => g d lo hi R) σ H Q) : tD K B m1 f σ H fun x H1 => tDO K B fl σ H1 fun l H2 => tDO K B fh σ H2 fun u H3 => r x l u H3 Q := by
  obtain ⟨F, ρ, fp, R, S, hf, k⟩ := h
  refine ⟨F, ρ, fp, _, S, hf, fun F1 H1 v d fp1 s1 hv o1 n1 hg => ?_⟩
  refine ⟨F1, ρ, fp, _, S.step s1 (fun a ha => by cases ha), hg, fun F2 H2 lo s2 hg2 => ?_⟩
  refine ⟨F2, ρ, fp, _, (S.step s1 (fun a ha => by cases ha)).step s2 (fun a ha => by cases ha), hg2, fun F3 H3 hi s3 hg3 => ?_⟩
  have t1 := hv.there
  have s23 := s2.trans s3 fun a ha => by cases ha
  refine hr B F3 H3 v d fp1 lo hi R Q s3.wf (hv.step s23 fun a ha => (o1 a ha).2.2) ⟨fun a ha => ?_, n1⟩ hg3 ((k.after s1 (A1 := fp1) fun a ha => (o1 a ha).1).after (s23.weak fun a ha => by cases ha) fun a ha => .inl ha)
  obtain ⟨o, e, mu⟩ := t1 a ha
  exact ⟨s23.out e mu (o1 a ha).2.2 (o1 a ha).2.1 (fun z => (by cases z)), (o1 a ha).2.2⟩
/-- xs[lo:hi] -/
theorem de_slL (he : DE X B e m1 f) (hl : DO X B lo fl) (hh : DO X B hi fh) (h1 : m1.flat1 = true := by rfl) : DE X B (.Subscript e (.Slice lo hi none p2) pos) (.own 1) (fun ρ R => f ρ fun d => fl ρ fun lo => fh ρ fun hi => gSlL d lo hi R) :=
  PE.imp (pe_slice sl_list he hl hh) fun _ _ _ q => tD_slice (m := .own 1) (r := rSlL X.K) (g := gSlL) (by
    intro B F H x d fp lo hi R Q w hv hf hg k
    cases d <;> try exact (show False from hg).elim
    obtain ⟨p, vs, rfl, hp, r⟩ := hv.lstRL h1 w
    exact ⟨p, vs, rfl, SqL.of hp, fun z hz => k.newLst0 w (cut_rl r lo hi) hg hz⟩) q
theorem de_slS (he : DE X B e m1 f) (hl : DO X B lo fl) (hh : DO X B hi fh) : DE X B (.Subscript e (.Slice lo hi none p2) pos) m (fun ρ R => f ρ fun d => fl ρ fun lo => fh ρ fun hi => gSlS d lo hi R) :=
  PE.imp (pe_slice sl_str he hl hh) fun _ _ _ q => tD_slice (m := m) (r := rSlS) (g := gSlS) (by
    intro B F H x d fp lo hi R Q w hv hf hg k
    cases d <;> try exact (show False from hg).elim
    obtain ⟨rfl, _⟩ := hv.str
    exact ⟨_, rfl, hg.1, k.str w hg.2⟩) q
end
end GK

namespace GK
open PySem PySem.Spec PyProof.Rows L2

/-! ### targets -/
def tgN (i : Nat) : D → Env → Option Env := fun d ρ => if i < ρ.length then some (ρ.set i (some (0, d))) else none
def tgL : List Nat → List D → Env → Option Env
  | [], [], ρ => some ρ
  | i :: is, d :: ds, ρ => if i < ρ.length then tgL is ds (ρ.set i (some (0, d))) else none
  | _, _, _ => none
def tgT (is : List Nat) : D → Env → Option Env := fun d ρ => match d with
  | .tup ds => tgL is ds ρ
  | _ => none
section
variable {X : Cx} {pin i : Nat} {x : Str} {pos : Pos}
theorem dg_name (i : Nat) (hN : X.N.Nodup) (hi : X.N[i]? = some x) (hx : Loc X.env.scope x) (hp : pin ≤ i) (hf : X.fn x = true ∨ X.env.scope.names.lookup x = some .local := by first | exact .inl rfl | exact .inr rfl | assumption) : DG X pin (.Name x pos) (tgN i) :=
  ⟨gName i, pg_name hN hi hx hf, fun B Pn Z0 F0 F H σ ρ ρ' fp v d hpl S r e Q k => by
    unfold tgN at e
    split at e
    · rename_i hi'
      cases e
      obtain ⟨fp', S'⟩ := S.set (n := 0) (f := []) (i := i) ⟨r, rfl⟩ .nil hi' (by omega)
      exact k _ fp' S'
    · cases e⟩
/-- several -/
structure DGs (X : Cx) (pin : Nat) (ts : List Expr) (is : List Nat) : Prop where
  ok : ∃ g : TGs, PGs X ts g ∧ ∀ (B : List Addr) (Pn : List V) (Z0 F0 F H : Hp) (σ : L2.St) (ρ ρ' : Env) (fp : List Addr) (vs : List V) (ds : List D), Pn.length = pin → StOk X.K B Pn Z0 F0 F H σ ρ fp → RL X.K F vs ds → tgL is ds ρ = some ρ' →
    ∀ Q : L2.St → Hp → Prop, (∀ σ' fp', StOk X.K B Pn Z0 F0 F H σ' ρ' fp' → Q σ' H) → g vs σ H Q
theorem dgs_nil : DGs X pin [] [] := ⟨gNil, pgs_nil, fun B Pn Z0 F0 F H σ ρ ρ' fp vs ds hpl S r e Q k => by
  cases r with
  | nil => cases e; exact ⟨rfl, k σ fp S⟩
  | cons h t => cases e⟩
theorem dgs_cons {is : List Nat} {es : List Expr} (i : Nat) (hN : X.N.Nodup) (hi : X.N[i]? = some x) (hx : Loc X.env.scope x) (hp : pin ≤ i) (h : DGs X pin es is) (hf : X.fn x = true ∨ X.env.scope.names.lookup x = some .local := by first | exact .inl rfl | exact .inr rfl | assumption)
    (hs : (assignEach (.Name x pos :: es) X.env).map (·.2) = assign (.Name x pos) X.env :: (assignEach es X.env).map (·.2) := by rfl) : DGs X pin (.Name x pos :: es) (i :: is) := by
  obtain ⟨g, pg, kg⟩ := h.ok
  refine ⟨_, pgs_cons (pg_name hN hi hx hf) pg hs, fun B Pn Z0 F0 F H σ ρ ρ' fp vs ds hpl S r e Q k => ?_⟩
  cases r with
  | nil => cases e
  | cons h t =>
    unfold tgL at e
    split at e
    · rename_i hi'
      obtain ⟨fp', S'⟩ := S.set (n := 0) (f := []) (i := i) ⟨h, rfl⟩ .nil hi' (by omega)
      exact ⟨_, _, rfl, kg B Pn Z0 F0 F H _ _ ρ' fp' _ _ hpl S' t e Q k⟩
    · cases e
theorem tgL_len : ∀ {is : List Nat} {ds : List D} {ρ ρ' : Env}, tgL is ds ρ = some ρ' → ds.length = is.length
  | [], [], _, _, _ => rfl
  | i :: is, d :: ds, ρ, ρ', e => by
    unfold tgL at e
    split at e
    · rw [List.length_cons, List.length_cons, tgL_len e]
    · cases e
  | [], _ :: _, _, _, e => by cases e
  | _ :: _, [], _, _, e => by cases e
theorem dg_tup {is : List Nat} {es : List Expr} {k : Nat} (hc : X.calm = true) (h : DGs X pin es is) (hn : (assignEach es X.env).length = is.length := by rfl) (hst : (assignEach es X.env).findIdx? (·.1) = none := by rfl) : DG X pin (.Tuple es k pos) (tgT is) := by
  obtain ⟨g, pg, kg⟩ := h.ok
  refine ⟨_, pg_tup hc pg hn hst, fun B Pn Z0 F0 F H σ ρ ρ' fp v d hpl S r e Q k => ?_⟩
  unfold tgT at e
  cases d <;> try (cases e; done)
  obtain ⟨a, vs, rfl, ht, rl⟩ := r.tupI
  exact ⟨a, vs, rfl, tup_sub S.wf ht, by rw [rl.length]; exact tgL_len e, kg B Pn Z0 F0 F H σ ρ ρ' fp vs _ hpl S rl e Q k⟩
end

/-! ### what is walked -/
def xsOf (R : List D → Prop) : D → Prop
  | .lst xs => R xs
  | _ => False
def tsOf (R : List D → Prop) : D → Prop
  | .tup xs => R xs
  | _ => False
def seqOf (R : List D → Prop) : D → Prop
  | .lst xs => R xs
  | .tup xs => R xs
  | _ => False
section
variable {K : PySem.W.Frag} {B fp : List Addr} {F F1 H H1 : Hp}
theorem protF {F1 H1 : Hp} (hF : ∀ a ∈ fp, F1 a = none) (w : WF B F1 H1) {a : Addr} {u : HO} (h : F1 a = some u) : ∃ x, prot B fp H1 a = some x ∧ erO x = u := by
  obtain ⟨hb, x, e, n⟩ := rdH_some (w.sub a u h)
  refine ⟨x, ?_, n⟩
  rw [prot_out (fun hf => ?_) hb]
  · exact e
  · rw [hF a hf] at h; cases h
theorem itD_list {a : Addr} {vs : List V} {xs : List D} (hF : ∀ a ∈ fp, F1 a = none) (w : WF B F1 H1) (h : F1 a = some (.lst vs)) (r : RL K F1 vs xs) : ItD K B (prot B fp H1) F1 (Itl K a) xs := by
  intro i F H w' sz sf
  obtain ⟨x, ex, er⟩ := protF hF w h
  have hs : SqL K H a vs := .inl (rd_of_er (sz a x ex) er)
  have rl := r.mono sf
  refine ⟨fun hi => ?_, fun hi => ⟨vs, hs, by rw [r.length]; exact hi⟩⟩
  have hi' : i < vs.length := by rw [r.length]; exact hi
  refine ⟨⟨vs, vs[i], hs, by simp [hi']⟩, fun y H' ⟨e, hy⟩ => ?_⟩
  subst e
  obtain ⟨d, ed, rd⟩ := rl.getV (hy vs hs)
  exact ⟨F, d, ed, Step.refl w', rd⟩
theorem itD_tup {a : Addr} {vs : List V} {xs : List D} (hF : ∀ a ∈ fp, F1 a = none) (w : WF B F1 H1) (h : F1 a = some (.tup vs)) (r : RL K F1 vs xs) : ItD K B (prot B fp H1) F1 (Itt K a) xs := by
  intro i F H w' sz sf
  obtain ⟨x, ex, er⟩ := protF hF w h
  have hs : SqT K H a vs := .inl (rd_of_er (sz a x ex) er)
  have rl := r.mono sf
  refine ⟨fun hi => ?_, fun hi => ⟨vs, hs, by rw [r.length]; exact hi⟩⟩
  have hi' : i < vs.length := by rw [r.length]; exact hi
  refine ⟨⟨vs, vs[i], hs, by simp [hi']⟩, fun y H' ⟨e, hy⟩ => ?_⟩
  subst e
  obtain ⟨d, ed, rd⟩ := rl.getV (hy vs hs)
  exact ⟨F, d, ed, Step.refl w', rd⟩
/-- 0, 1, .. -/
def rangeD (lo : Int) (n : Nat) : List D := (List.range n).map fun i : Nat => D.int (lo + (i : Int))
theorem itD_rng {Z : Hp} {lo : Int} {n : Nat} : ItD K B Z F1 (Itr lo n) (rangeD lo n) := by
  intro i F H w' sz sf
  unfold rangeD
  rw [List.length_map, List.length_range]
  refine ⟨fun hi => ⟨hi, fun y H' ⟨e, hy⟩ => ?_⟩, fun hi => hi⟩
  subst e
  subst hy
  exact ⟨F, .int (lo + i), by simp [hi], Step.refl w', .int _⟩
end
section
variable {X : Cx} {tg e e2 : Expr} {pos p : Pos} {m m2 : Mode} {f f' : FE}
theorem outF {K : PySem.W.Frag} {B fp : List Addr} {Pn : List V} {Z0 F0 F H : Hp} {σ : L2.St} {ρ : Env} (S : StOk K B Pn Z0 F0 F H σ ρ fp) : ∀ a ∈ fp, F a = none := fun a ha => (S.out a ha).1
theorem di_list (h : DE X B e (.own 0) f) : DI X B tg e (fun ρ R => f ρ (xsOf R)) := PI.imp (pi_list h) fun σ H R ⟨F, ρ, fp, Rx, S, hf, k⟩ => ⟨F, ρ, fp, _, S, hf, fun F1 H1 v d f1 s1 hv o1 n1 hR => by
  cases d <;> try exact (show False from hR).elim
  obtain ⟨a, vs, rfl, h1, r⟩ := hv.1.lstI
  exact ⟨a, rfl, ⟨vs, lst_sub s1.wf h1⟩, k _ F1 H1 _ s1 (itD_list (outF (S.step s1 fun a h => by cases h)) s1.wf h1 r) hR⟩⟩
theorem di_tup (h : DE X B e (.own 0) f) : DI X B tg e (fun ρ R => f ρ (tsOf R)) := PI.imp (pi_tup h) fun σ H R ⟨F, ρ, fp, Rx, S, hf, k⟩ => ⟨F, ρ, fp, _, S, hf, fun F1 H1 v d f1 s1 hv o1 n1 hR => by
  cases d <;> try exact (show False from hR).elim
  obtain ⟨a, vs, rfl, h1, r⟩ := hv.1.tupI
  exact ⟨a, rfl, ⟨vs, tup_sub s1.wf h1⟩, k _ F1 H1 _ s1 (itD_tup (outF (S.step s1 fun a h => by cases h)) s1.wf h1 r) hR⟩⟩
def rng1 (R : List D → Prop) : D → Prop
  | .int n => -(2 ^ 62) ≤ n ∧ n < 2 ^ 62 ∧ R (rangeD 0 n.toNat)
  | _ => False
def rng2 (R : List D → Prop) : D → D → Prop
  | .int i, .int j => (-(2 ^ 62) ≤ i ∧ i < 2 ^ 62 ∧ -(2 ^ 62) ≤ j ∧ j < 2 ^ 62) ∧ R (rangeD i (j - i).toNat)
  | _, _ => False
theorem di_range (hz : X.mg "range" = none) (h : DE X B e m f) (hg : Gl X "range" := by rfl) (hs : starEach [e] X.env = [(false, eval e X.env)] := by rfl) (hs' : starEach [e] X.env = (false, eval e X.env) :: starEach [] X.env := by rfl) : DI X B tg (.Call (.Name "range" p) [e] [] pos) (fun ρ R => f ρ (rng1 R)) :=
  PI.imp (pi_range1 hg hz (da_cons h da_nil hs') hs) fun σ H R ⟨F, ρ, fp, Rx, S, hf, k⟩ => ⟨F, ρ, fp, fun ds => ∃ d, ds = [d] ∧ rng1 Rx d, S, by
    show f ρ fun x => ∃ d, [x] = [d] ∧ rng1 Rx d
    have : (fun x => ∃ d, [x] = [d] ∧ rng1 Rx d) = rng1 Rx := by
      funext x
      exact propext ⟨fun ⟨d, e, h⟩ => by cases e; exact h, fun h => ⟨x, rfl, h⟩⟩
    rw [this]; exact hf, fun F1 H1 vs ds f1 s1 hv o1 n1 ⟨d, ed, hR⟩ => by
    subst ed
    obtain ⟨v, rfl, h1⟩ := hv.one
    cases d <;> try exact (show False from hR).elim
    obtain ⟨rfl, _⟩ := h1.int
    exact ⟨_, rfl, hR.1, hR.2.1, k _ F1 H1 _ s1 itD_rng hR.2.2⟩⟩
theorem di_range2 (hz : X.mg "range" = none) (h : DE X B e m f) (h' : DE X B e2 m2 f') (hg : Gl X "range" := by rfl) (hs : starEach [e, e2] X.env = [(false, eval e X.env), (false, eval e2 X.env)] := by rfl) (hs2 : starEach [e2] X.env = [(false, eval e2 X.env)] := by rfl)
    (hs' : starEach [e, e2] X.env = (false, eval e X.env) :: starEach [e2] X.env := by rfl) (hs2' : starEach [e2] X.env = (false, eval e2 X.env) :: starEach [] X.env := by rfl) : DI X B tg (.Call (.Name "range" p) [e, e2] [] pos) (fun ρ R => f ρ fun x => f' ρ fun y => rng2 R x y) :=
  PI.imp (pi_range2 hg hz (da_cons h (da_cons h' da_nil hs2') hs') hs hs2) fun σ H R ⟨F, ρ, fp, Rx, S, hf, k⟩ => ⟨F, ρ, fp, fun ds => ∃ d d', ds = [d, d'] ∧ rng2 Rx d d', S, by
    show f ρ fun x => f' ρ fun y => ∃ d d', [x, y] = [d, d'] ∧ rng2 Rx d d'
    have : (fun x => f' ρ fun y => ∃ d d', [x, y] = [d, d'] ∧ rng2 Rx d d') = fun x => f' ρ fun y => rng2 Rx x y := by
      funext x
      congr 1
      funext y
      exact propext ⟨fun ⟨d, d', e, h⟩ => by cases e; exact h, fun h => ⟨x, y, rfl, h⟩⟩
    rw [this]; exact hf, fun F1 H1 vs ds f1 s1 hv o1 n1 ⟨d, d', ed, hR⟩ => by
    subst ed
    obtain ⟨v, v', g, g', rfl, h1, h2, _⟩ := hv.two
    cases d <;> cases d' <;> try exact (show False from hR).elim
    obtain ⟨rfl, _⟩ := h1.int
    obtain ⟨rfl, _⟩ := h2.int
    exact ⟨_, _, rfl, hR.1, k _ F1 H1 _ s1 itD_rng hR.2⟩⟩
end
end GK

namespace GK
open PySem PySem.Spec PyProof.Rows L2

/-! ### a for over a dict: it is locked meanwhile -/
section
variable {X : Cx} {st : Stmt} {e : Expr} {t : TS} {te : TE}
def unlQ (X : Cx) (Q : VK) : VK := fun v H => Q v H ∨ ∃ d od u, H d = some (.frz od u) ∧ (∀ o' u', X.H_0 d ≠ some (.frz o' u')) ∧ Q v (upd H d u)
def unlS (X : Cx) (Q : L2.St → Hp → Prop) : L2.St → Hp → Prop := fun σ H => Q σ H ∨ ∃ d od u, H d = some (.frz od u) ∧ (∀ o' u', X.H_0 d ≠ some (.frz o' u')) ∧ Q σ (upd H d u)
def unlEnds (X : Cx) (D : Ends) : Ends := ⟨unlS X D.nx, unlQ X D.rt, unlS X D.bk, unlS X D.ct⟩
theorem ps_unl (h : PS X st t) : PS X st (fun D σ H => t (unlEnds X D) σ H) := ⟨fun pins s σ H D I q => thn (h.run pins s σ H (unlEnds X D) I q) fun f s' hs => by
  have go : ∀ {Q : L2.St → Hp → Prop}, (∃ σ' H', L2.Inv X pins σ' H' s' ∧ unlS X Q σ' H') → ∃ σ' H', L2.Inv X pins σ' H' s' ∧ Q σ' H' := fun {Q} ⟨σ', H', I', q⟩ => by
    rcases q with q | ⟨d, od, u, h1, h2, q⟩
    · exact ⟨σ', H', I', q⟩
    · exact ⟨σ', _, I'.unlock h1 h2, q⟩
  cases f with
  | next => exact go hs
  | brk => exact go hs
  | cont => exact go hs
  | ret u =>
    obtain ⟨v, σ', H', I', r, q⟩ := hs
    rcases q with q | ⟨d, od, u, h1, h2, q⟩
    · exact ⟨v, σ', H', I', r, q⟩
    · exact ⟨v, σ', _, I'.unlock h1 h2, r, q⟩⟩
theorem pe_unl (h : PE X e te) : PE X e (fun σ H Q => te σ H (unlQ X Q)) := ⟨fun pins s σ H Q I q => thn (h.run pins s σ H _ I q) fun v s' ⟨x, H', I', r, q⟩ => by
  rcases q with q | ⟨d, od, u, h1, h2, q⟩
  · exact ⟨x, H', I', r, q⟩
  · exact ⟨x, _, I'.unlock h1 h2, r, q⟩⟩
theorem pe_lockA (h : PE X e te) : PE X e (fun σ H Q => te σ H fun x H1 => Q x H1 ∨ ∃ d u, H1 d = some u ∧ Mut (some u) ∧ ∀ od, (∀ o' u', X.H_0 d ≠ some (.frz o' u')) → Q x (upd H1 d (.frz od u))) :=
  ⟨fun pins s σ H Q I q => thn (h.run pins s σ H _ I q) fun v s' ⟨x, H', I', r, q⟩ => by
    rcases q with q | ⟨d, u, h1, mu, k⟩
    · exact ⟨x, H', I', r, q⟩
    · obtain ⟨od, I2⟩ := I'.lock h1 mu
      exact ⟨x, _, I2, r, k od (I'.nofrz h1 mu)⟩⟩
end
section
variable {K : PySem.W.Frag} {B fp : List Addr} {Pn : List V} {Z0 F0 F F1 H H1 : Hp} {σ : L2.St} {ρ : Env}
/-- the loop itself, from a base of its own -/
theorem for_core {X : Cx} {pin : Nat} {mr : Mode} {gb : FS} {t : D → Env → Option Env} {g : TG} {J : It} {xs : List D} {E : DEnds} {Dn : Ends} {Z1 : Hp} (hpl : Pn.length = pin)
    (kg : ∀ (B : List Addr) (Pn : List V) (Z0 F0 F H : Hp) (σ : L2.St) (ρ ρ' : Env) (fp : List Addr) (v : V) (d : D), Pn.length = pin → StOk X.K B Pn Z0 F0 F H σ ρ fp → R X.K F v d → t d ρ = some ρ' →
      ∀ Q : L2.St → Hp → Prop, (∀ σ' fp', StOk X.K B Pn Z0 F0 F H σ' ρ' fp' → Q σ' H) → g v σ H Q)
    (S : StOk X.K B Pn Z1 F1 F1 H1 σ ρ fp) (it : ItD X.K B Z1 F1 J xs) (hx : forD t gb xs E ρ) (L : Links X.K B Pn Z1 F1 mr E Dn) :
    ∃ W : Nat → Nat → L2.St → Hp → Prop, (∃ m, W 0 m σ H1) ∧ ∀ i m σ H, W i m σ H → (J.stop i H ∧ Dn.nx σ H) ∨ (J.go i H ∧ ∃ N : L2.St → Hp → Prop, (∀ σ' H', N σ' H' → ∃ m', m' < m ∧ W (i + 1) m' σ' H') ∧
      ∀ x H', J.yld i H x H' → g x σ H' fun σ2 H2 => tDS X.K B pin mr gb { Dn with nx := N, ct := N, bk := Dn.nx } σ2 H2) := by
  refine ⟨fun i m σ H => ∃ F ρ fp', StOk X.K B Pn Z1 F1 F H σ ρ fp' ∧ m = xs.length - i ∧ i ≤ xs.length ∧ forD t gb (xs.drop i) E ρ, ⟨xs.length, F1, ρ, fp, S, rfl, Nat.zero_le _, hx⟩, ?_⟩
  rintro i m σ H ⟨F, ρ, fp', S, rfl, hi, hr⟩
  obtain ⟨k1, k2⟩ := it i F H S.wf S.z S.f
  by_cases hlt : i < xs.length
  · refine .inr ⟨(k1 hlt).1, fun σ' H' => ∃ F ρ fp', StOk X.K B Pn Z1 F1 F H' σ' ρ fp' ∧ forD t gb (xs.drop (i + 1)) E ρ, fun σ' H' ⟨F, ρ, fp', S, h⟩ => ⟨xs.length - (i + 1), by omega, F, ρ, fp', S, rfl, hlt, h⟩, fun x H' y => ?_⟩
    obtain ⟨F2, d, ed, s2, r2⟩ := (k1 hlt).2 x H' y
    have S2 := S.step s2 fun a h => (by cases h)
    rw [List.drop_eq_getElem_cons hlt] at hr
    have ed' : xs[i] = d := Option.some.inj ((List.getElem?_eq_getElem hlt).symm.trans ed)
    rw [ed'] at hr
    obtain ⟨ρ', et, hb'⟩ := hr
    refine kg B Pn _ F1 F2 H' σ ρ ρ' fp' x d hpl S2 r2 et _ fun σ2 fp2 S3 => ?_
    exact ⟨Pn, _, F1, F2, ρ', fp2, _, hpl, S3, hb', ⟨fun F H σ ρ fp S h => ⟨F, ρ, fp, S, h⟩, L.rt, L.nx, fun F H σ ρ fp S h => ⟨F, ρ, fp, S, h⟩⟩⟩
  · have e : i = xs.length := by omega
    subst e
    rw [List.drop_length] at hr
    exact .inl ⟨k2 (Nat.le_refl _), L.nx F H σ ρ fp' S hr⟩
theorem Links.unbase {mr : Mode} {E : DEnds} {Dn : Ends} (S : StOk K B Pn Z0 F0 F H σ ρ fp) (L : Links K B Pn Z0 F0 mr E Dn) : Links K B Pn (prot B fp H) F mr E Dn :=
  ⟨fun F' H' σ' ρ' fp' T h => L.nx F' H' σ' ρ' fp' (S.unbase T) h, fun F' H' σ' ρ' fp' v d f T hv ap h => L.rt F' H' σ' ρ' fp' v d f (S.unbase T) hv (ap.unbase S.zp) h,
    fun F' H' σ' ρ' fp' T h => L.bk F' H' σ' ρ' fp' (S.unbase T) h, fun F' H' σ' ρ' fp' T h => L.ct F' H' σ' ρ' fp' (S.unbase T) h⟩
/-! a dict that may be read is locked -/
theorem isDct_er {u : HO} (h : isDct u) : erO u = u := by cases u <;> first | rfl | exact h.elim
theorem isDct_mut {u : HO} (h : isDct u) : Mut (some u) := by cases u <;> first | trivial | exact h.elim
theorem WF.lockd {a : Addr} {od : Obj} {u : HO} (w : WF B F H) (h : H a = some u) (hd : isDct u) (hB : a ∉ B) : WF B F (upd H a (.frz od u)) :=
  ⟨fun b x e => by
    obtain ⟨hb, y, ey, er⟩ := rdH_some (w.sub b x e)
    by_cases c : b = a
    · subst c
      rw [h] at ey; cases ey
      exact rdH_of hb upd_same (by rw [isDct_er hd] at er; exact er)
    · exact rdH_of hb (by rw [upd_ne c]; exact ey) er, fun b o x hb e => by
    by_cases c : b = a
    · subst c
      rw [upd_same] at e
      cases e; exact hd
    · rw [upd_ne c] at e; exact w.lock b o x hb e, w.bag.keep fun b hb x e => by rw [upd_ne (ne_mem hb hB)]; exact e⟩
theorem WF.unlockd {a : Addr} {od : Obj} {u : HO} (w : WF B F H) (h : H a = some (.frz od u)) (hd : isDct u) (hB : a ∉ B) : WF B F (upd H a u) :=
  ⟨fun b x e => by
    obtain ⟨hb, y, ey, er⟩ := rdH_some (w.sub b x e)
    by_cases c : b = a
    · subst c
      rw [h] at ey; cases ey
      exact rdH_of hb upd_same (by rw [isDct_er hd]; exact er)
    · exact rdH_of hb (by rw [upd_ne c]; exact ey) er, fun b o x hb e => by
    by_cases c : b = a
    · subst c
      rw [upd_same] at e
      cases e; exact hd.elim
    · rw [upd_ne c] at e; exact w.lock b o x hb e, w.bag.keep fun b hb x e => by rw [upd_ne (ne_mem hb hB)]; exact e⟩
theorem StOk.locked {a : Addr} {od : Obj} {u : HO} (S : StOk K B Pn Z0 F0 F H σ ρ fp) (h : H a = some u) (hd : isDct u) (hB : a ∉ B) (hf : a ∉ fp) : StOk K B Pn (prot B fp (upd H a (.frz od u))) F F (upd H a (.frz od u)) σ ρ fp :=
  ⟨S.wf.lockd h hd hB, S.own.mono (fun _ _ h => h) fun b hb o e => by rw [upd_ne (ne_mem hb hf)]; exact e, S.nd, fun b hb => ⟨(S.out b hb).1, (S.out b hb).2.1, prot_in (.inl hb)⟩, prot_same, fun b hb => prot_in (.inr hb), fun _ _ h => h, fun b o e => .inl e, S.pn⟩
theorem Val.unlockd {m : Mode} {a : Addr} {od : Obj} {u : HO} {v : V} {d : D} {f : List Addr} (h : H a = some (.frz od u)) (hd : isDct u) (hv : Val K m B F H v d f) : Val K m B F (upd H a u) v d f := by
  have own : ∀ {n f}, Own K F H n v d f → Own K F (upd H a u) n v d f := fun {n f} ho => Own.mono (fun _ _ h => h) (fun b hb o e => by
    obtain ⟨o', e', mu⟩ := ho.there b hb
    have : b ≠ a := fun z => by
      subst z
      rw [h] at e'; cases e'
      exact mu
    rw [upd_ne this]; exact e) ho
  cases m with
  | rd =>
    refine ⟨hv.1.mono fun b x e => ?_, hv.2⟩
    obtain ⟨hb, y, ey, er⟩ := rdH_some e
    by_cases c : b = a
    · subst c
      rw [h] at ey; cases ey
      exact rdH_of hb upd_same (by rw [isDct_er hd]; exact er)
    · exact rdH_of hb (by rw [upd_ne c]; exact ey) er
  | bor n =>
    obtain ⟨⟨f, ho, hB⟩, e⟩ := hv
    exact ⟨⟨f, own ho, hB⟩, e⟩
  | own n => exact own hv
theorem StOk.unlocked {a : Addr} {od : Obj} {u : HO} {F' H' : Hp} {σ' : L2.St} {ρ' : Env} {fp' : List Addr} (S : StOk K B Pn Z0 F0 F H σ ρ fp) (h : H a = some u) (hd : isDct u) (hB : a ∉ B) (hf : a ∉ fp)
    (T : StOk K B Pn (prot B fp (upd H a (.frz od u))) F F' H' σ' ρ' fp') : H' a = some (.frz od u) ∧ StOk K B Pn Z0 F0 F' (upd H' a u) σ' ρ' fp' := by
  have ha : H' a = some (.frz od u) := T.z a _ (by rw [prot_out hf hB]; exact upd_same)
  have keep : ∀ b o, b ∉ fp → b ∉ B → H b = some o → upd H' a u b = some o := fun b o h1 h2 e => by
    by_cases c : b = a
    · subst c; rw [h] at e; rw [upd_same]; exact e
    · rw [upd_ne c]
      exact T.z b o (by rw [prot_out h1 h2, upd_ne c]; exact e)
  have hf' : a ∉ fp' := fun z => by
    have := (T.out a z).2.2
    rw [prot_out hf hB, upd_same] at this; cases this
  refine ⟨ha, T.wf.unlockd ha hd hB, T.own.mono (fun _ _ h => h) fun b hb o e => by rw [upd_ne (ne_mem hb hf')]; exact e, T.nd, fun b hb => ⟨(T.out b hb).1, (T.out b hb).2.1, ?_⟩, fun b o e => ?_, S.zB, fun b o e => T.f b o (S.f b o e), fun b o e => ?_, T.pn⟩
  · cases q : Z0 b with
    | none => rfl
    | some o =>
      exfalso
      have h1 : b ∉ fp := fun h => by rw [(S.out b h).2.2] at q; cases q
      have h2 : b ∉ B := fun h => by rw [S.zB b h] at q; cases q
      have := (T.out b hb).2.2
      rw [prot_out h1 h2] at this
      by_cases c : b = a
      · subst c; exact hf' hb
      · rw [upd_ne c, S.z b o q] at this; cases this
  · have h1 : b ∉ fp := fun h => by rw [(S.out b h).2.2] at e; cases e
    have h2 : b ∉ B := fun h => by rw [S.zB b h] at e; cases e
    exact keep b o h1 h2 (S.z b o e)
  · rcases T.fr b o e with z | z | z
    · exact S.fr b o z
    · right; left
      cases q : Z0 b with
      | none => rfl
      | some o =>
        exfalso
        have h1 : b ∉ fp := fun h => by rw [(S.out b h).2.2] at q; cases q
        have h2 : b ∉ B := fun h => by rw [S.zB b h] at q; cases q
        rw [prot_out h1 h2] at z
        by_cases c : b = a
        · subst c; rw [upd_same] at z; cases z
        · rw [upd_ne c, S.z b o q] at z; cases z
    · exact .inr (.inr z)
theorem Links.lockd {X : Cx} {mr : Mode} {E : DEnds} {Dn : Ends} {a : Addr} {od : Obj} {u : HO} (S : StOk K B Pn Z0 F0 F H σ ρ fp) (h : H a = some u) (hd : isDct u) (hB : a ∉ B) (hf : a ∉ fp) (hn : ∀ o' u', X.H_0 a ≠ some (.frz o' u'))
    (L : Links K B Pn Z0 F0 mr E Dn) : Links K B Pn (prot B fp (upd H a (.frz od u))) F mr E (unlEnds X Dn) := by
  have key : ∀ {F' H' : Hp} {σ' : L2.St} {ρ' : Env} {fp' : List Addr}, StOk K B Pn (prot B fp (upd H a (.frz od u))) F F' H' σ' ρ' fp' → _ := fun T => S.unlocked (od := od) h hd hB hf T
  refine ⟨fun F' H' σ' ρ' fp' T hh => .inr ⟨a, od, u, (key T).1, hn, L.nx F' _ σ' ρ' fp' (key T).2 hh⟩, fun F' H' σ' ρ' fp' v d f T hv ap hh => .inr ⟨a, od, u, (key T).1, hn, L.rt F' _ σ' ρ' fp' v d f (key T).2 (hv.unlockd (key T).1 hd) ⟨fun b hb => ?_, ap.2⟩ hh⟩,
    fun F' H' σ' ρ' fp' T hh => .inr ⟨a, od, u, (key T).1, hn, L.bk F' _ σ' ρ' fp' (key T).2 hh⟩, fun F' H' σ' ρ' fp' T hh => .inr ⟨a, od, u, (key T).1, hn, L.ct F' _ σ' ρ' fp' (key T).2 hh⟩⟩
  obtain ⟨h1, h2, h3, h4⟩ := ap.1 b hb
  refine ⟨h1, h2, ?_, h4⟩
  cases q : Z0 b with
  | none => rfl
  | some o =>
    exfalso
    have g1 : b ∉ fp := fun h => by rw [(S.out b h).2.2] at q; cases q
    have g2 : b ∉ B := fun h => by rw [S.zB b h] at q; cases q
    rw [prot_out g1 g2] at h3
    by_cases c : b = a
    · subst c; rw [upd_same] at h3; cases h3
    · rw [upd_ne c, S.z b o q] at h3; cases h3
/-- the keys -/
def keyD : Key → D
  | .inl i => .int i
  | .inr s => .str s
def keysD : D → Option (List D)
  | .dK es => some (es.map fun e => keyD e.1)
  | .dT es => some (es.map fun e => .tup (e.1.map keyD))
  | _ => none
theorem keyD_R {G : Hp} : ∀ k : Key, R K G (kV k) (keyD k)
  | .inl i => .int i
  | .inr s => .str s
theorem keysD_RL {G : Hp} : ∀ ks : List Key, RL K G (ks.map kV) (ks.map keyD)
  | [] => .nil
  | k :: ks => .cons (keyD_R k) (keysD_RL ks)
theorem itD_keys {a : Addr} {o : Obj} {kvs : List (Key × V)} {es : List (Key × D)} {Z : Hp} (h : Z a = some (.frz o (.dK kvs))) (hk : kvs.map (·.1) = es.map (·.1)) : ItD K B Z F1 (Itk a o kvs) (es.map fun e => keyD e.1) := by
  intro i F H w sz sf
  have hl : es.length = kvs.length := by have := congrArg List.length hk; simpa using this.symm
  rw [List.length_map, hl]
  have hs := sz a _ h
  refine ⟨fun hi => ⟨⟨hs, hi⟩, fun x H' ⟨e, k, v, e1, e2⟩ => ?_⟩, fun hi => ⟨hs, hi⟩⟩
  subst e
  subst e2
  have e3 : (es.map (·.1))[i]? = some k := by rw [← hk, List.getElem?_map, e1]; rfl
  rw [List.getElem?_map] at e3
  cases q : es[i]? with
  | none => rw [q] at e3; cases e3
  | some p =>
    rw [q] at e3
    have e4 : p.1 = k := Option.some.inj e3
    exact ⟨F, keyD k, by rw [List.getElem?_map, q, ← e4]; rfl, Step.refl w, keyD_R k⟩
theorem itD_keysT {a : Addr} {o : Obj} {kvs : List (List Key × V)} {es : List (List Key × D)} {Z : Hp} (h : Z a = some (.frz o (.dT kvs))) (hk : kvs.map (·.1) = es.map (·.1)) : ItD K B Z F1 (Itkt a o kvs) (es.map fun e => .tup (e.1.map keyD)) := by
  intro i F H w sz sf
  have hl : es.length = kvs.length := by have := congrArg List.length hk; simpa using this.symm
  rw [List.length_map, hl]
  have hs := sz a _ h
  refine ⟨fun hi => ⟨⟨hs, hi⟩, fun x H' ⟨e, k, v, q, e1, e2, e3⟩ => ?_⟩, fun hi => ⟨hs, hi⟩⟩
  subst e
  subst e2
  have e4 : (es.map (·.1))[i]? = some k := by rw [← hk, List.getElem?_map, e1]; rfl
  rw [List.getElem?_map] at e4
  cases r : es[i]? with
  | none => rw [r] at e4; cases e4
  | some p =>
    rw [r] at e4
    have e5 : p.1 = k := Option.some.inj e4
    have hq : q ∉ B := fun z => by
      obtain ⟨o, e, nt⟩ := w.bag.there z
      rw [e3] at e; cases e
      exact nt trivial
    exact ⟨addT F (rdH B H'), .tup (k.map keyD), by rw [List.getElem?_map, r, ← e5]; rfl, (Step.refl w).addT, .tup (addT_tup w.sub (rdH_of hq e3 rfl)) (keysD_RL k)⟩
end
end GK

namespace GK
open PySem PySem.Spec PyProof.Rows L2

def ksOf (R : List D → Prop) (d : D) : Prop := ∃ ks, keysD d = some ks ∧ R ks
section
variable {X : Cx} {pin : Nat} {mr m : Mode} {gb : FS} {f : FE} {t : D → Env → Option Env} {pos p : Pos} {tg e e2 : Expr} {body : List Stmt}
/-- for k in d -/
theorem ds_forK (hp : PassesOwn (model X.prog X.w) X.A X.env X.xe) (hc : X.calm = true) (he : DE X B e (.own 0) f) (hg : DG X pin tg t) (hb : DSs X B body pin mr gb)
    (hs : ∀ x, foldedSetIterable e X.env x = pure x := by intro _; rfl) : DS X B (.For tg e body [] pos) pin mr (gFor (fun ρ R => f ρ (ksOf R)) t gb) := by
  obtain ⟨g, pg, kg⟩ := hg.ok
  refine PS.imp (ps_unl (ps_for hp hc (pi_keys (pe_lockA he)) pg hb hs)) fun Dn σ H ⟨Pn, Z0, F0, F, ρ, fp, E, hpl, S, hf, L⟩ => ⟨F, ρ, fp, _, S.base, hf, fun F1 H1 v d f1 s1 hv o1 n1 hR => ?_⟩
  have S1 := S.step s1 fun a h => (by cases h)
  obtain ⟨ks, ek, hR⟩ := hR
  have L0 : Links X.K B Pn (prot B fp H1) F1 mr E (unlEnds X Dn) :=
    ⟨fun F H σ ρ fp S h => .inl (L.nx F H σ ρ fp (S1.unbase S) h), fun F H σ ρ fp' v d f S hv ap h => .inl (L.rt F H σ ρ fp' v d f (S1.unbase S) hv (ap.unbase S1.zp) h),
      fun F H σ ρ fp S h => .inl (L.bk F H σ ρ fp (S1.unbase S) h), fun F H σ ρ fp S h => .inl (L.ct F H σ ρ fp (S1.unbase S) h)⟩
  cases d <;> try (cases ek; done)
  · obtain ⟨a, kvs, rfl, h1, hk, r⟩ := hv.1.dKI
    have ek' := Option.some.inj ek
    subst ek'
    have hfp : a ∉ fp := fun z => by rw [(S1.out a z).1] at h1; cases h1
    obtain ⟨hB, x, ex, er⟩ := rdH_some (S1.wf.sub a _ h1)
    have cs : x = .dK kvs ∨ ∃ od, x = .frz od (.dK kvs) := by
      cases x <;> first | (left; exact er) | skip
      rename_i od u
      right
      have er' : u = .dK kvs := er
      exact ⟨od, by rw [er']⟩
    rcases cs with rfl | ⟨od, rfl⟩
    · refine .inr ⟨a, _, ex, trivial, fun od hn => ⟨a, od, rfl, .inl ⟨kvs, upd_same, ?_⟩⟩⟩
      exact for_core hpl kg (S1.locked ex trivial hB hfp) (itD_keys (by rw [prot_out hfp hB]; exact upd_same) hk) hR (L.lockd S1 ex trivial hB hfp hn)
    · refine .inl ⟨a, od, rfl, .inl ⟨kvs, ex, ?_⟩⟩
      exact for_core hpl kg S1.rebase (itD_keys (by rw [prot_out hfp hB]; exact ex) hk) hR L0
  · obtain ⟨a, kvs, rfl, h1, hk, r⟩ := hv.1.dTI
    have ek' := Option.some.inj ek
    subst ek'
    have hfp : a ∉ fp := fun z => by rw [(S1.out a z).1] at h1; cases h1
    obtain ⟨hB, x, ex, er⟩ := rdH_some (S1.wf.sub a _ h1)
    have cs : x = .dT kvs ∨ ∃ od, x = .frz od (.dT kvs) := by
      cases x <;> first | (left; exact er) | skip
      rename_i od u
      right
      have er' : u = .dT kvs := er
      exact ⟨od, by rw [er']⟩
    rcases cs with rfl | ⟨od, rfl⟩
    · refine .inr ⟨a, _, ex, trivial, fun od hn => ⟨a, od, rfl, .inr ⟨kvs, upd_same, ?_⟩⟩⟩
      exact for_core hpl kg (S1.locked ex trivial hB hfp) (itD_keysT (by rw [prot_out hfp hB]; exact upd_same) hk) hR (L.lockd S1 ex trivial hB hfp hn)
    · refine .inl ⟨a, od, rfl, .inr ⟨kvs, ex, ?_⟩⟩
      exact for_core hpl kg S1.rebase (itD_keysT (by rw [prot_out hfp hB]; exact ex) hk) hR L0
end
/-! ### list comprehensions -/
/-- its turns -/
def compD (t : D → Env → Option Env) (fc : FT) (fe : FE) (ρ : Env) : List D → List D → (D → Prop) → Prop
  | [], acc, R => R (.lst acc)
  | x :: xs, acc, R => ∃ ρ', t x ρ = some ρ' ∧ fc ρ' fun b => if b = true then fe ρ' fun y => acc.length < sizeLine ∧ compD t fc fe ρ xs (acc ++ [y]) R else compD t fc fe ρ xs acc R
/-- the own names are wiped -/
def wipeE (ρ : Env) : List Nat → Env
  | [] => ρ
  | v :: vs => (wipeE ρ vs).set v none
section
variable {K : PySem.W.Frag} {B fp : List Addr} {Pn : List V} {Z0 F0 F H : Hp} {σ : L2.St} {ρ : Env}
theorem OwnE.unset : ∀ {σ : L2.St} {ρ : Env} {fp : List Addr} (i : Nat), OwnE K F H σ ρ fp → fp.Nodup → ∃ fp', OwnE K F H (σ.set i none) (ρ.set i none) fp' ∧ fp'.Nodup ∧ ∀ a ∈ fp', a ∈ fp
  | [], [], fp, i, h, nd => ⟨fp, h, nd, fun _ h => h⟩
  | x :: σ, none :: ρ, fp, 0, h, nd => ⟨fp, h, nd, fun _ h => h⟩
  | x :: σ, none :: ρ, fp, i + 1, h, nd => OwnE.unset (σ := σ) (ρ := ρ) i h nd
  | some w :: σ, some (k, e) :: ρ, fp, 0, ⟨f1, f2, ef, h1, t⟩, nd => by
    subst ef
    exact ⟨f2, t, (List.nodup_append.mp nd).2.1, fun a ha => List.mem_append_right _ ha⟩
  | some w :: σ, some (k, e) :: ρ, fp, i + 1, ⟨f1, f2, ef, h1, t⟩, nd => by
    subst ef
    obtain ⟨n1, n2, n3⟩ := List.nodup_append.mp nd
    obtain ⟨fp', o, nd', sub⟩ := OwnE.unset (σ := σ) (ρ := ρ) i t n2
    refine ⟨f1 ++ fp', ⟨f1, fp', rfl, h1, o⟩, List.nodup_append.mpr ⟨n1, nd', fun a ha b hb e => n3 a ha b (sub b hb) e⟩, fun a ha => ?_⟩
    rcases List.mem_append.mp ha with z | z
    · exact List.mem_append_left _ z
    · exact List.mem_append_right _ (sub a z)
  | _ :: _, [], _, _, h, _ => by cases h
  | [], _ :: _, _, _, h, _ => by cases h
  | none :: _, some _ :: _, _, _, h, _ => by cases h
theorem StOk.wipe (S : StOk K B [] Z0 F0 F H σ ρ fp) : ∀ vs : List Nat, ∃ fp', StOk K B [] Z0 F0 F H (L2.wipe σ vs) (wipeE ρ vs) fp' ∧ ∀ a ∈ fp', a ∈ fp
  | [] => ⟨fp, S, fun _ h => h⟩
  | v :: vs => by
    obtain ⟨fp', S', sub⟩ := S.wipe vs
    obtain ⟨fp2, o, nd, sub2⟩ := S'.own.unset v S'.nd
    exact ⟨fp2, ⟨S'.wf, o, nd, fun a ha => S'.out a (sub2 a ha), S'.z, S'.zB, S'.f, S'.fr, fun i v e => (by simp at e)⟩, fun a ha => sub a (sub2 a ha)⟩
end
section
variable {K : PySem.W.Frag} {B fp : List Addr} {Pn : List V} {Z0 F0 F F1 F' H H1 H' : Hp} {σ : L2.St} {ρ : Env} {n : Nat}
theorem Step.mutNew {A : List Addr} {a : Addr} {o : HO} (s : Step B A F H F' H') (h : H a = none) (hF : F' a = none) (hB : a ∉ B) (ho : erO o = o) : Step B A F H F' (upd H' a o) :=
  ⟨fun b u hb e => by rw [upd_ne (ne_of_none e h)]; exact s.same b u hb e, s.fs, s.fresh, s.wf.mut hF hB ho⟩
/-- the target in a comprehension's block -/
structure DGc (X : Cx) (tg : Expr) (vs : List Nat) (t : D → Env → Option Env) : Prop where
  ok : ∃ g : TG, (∀ (s : Shared) (H : Hp) (scope : Scope) (C : Addr) (cl : List (Str × Addr)) (fp : List Addr), (∀ v ∈ vs, ∃ x, X.N[v]? = some x ∧ ∀ C cl, (compEnvC scope cl C X.env).scope.names.lookup x = some .local) → PG (X.blk s H scope (compEnvC scope cl C X.env) fp) tg g) ∧
    ∀ (B : List Addr) (F H : Hp) (σ : L2.St) (ρ ρ' : Env) (fp : List Addr) (v : V) (d : D), StOk X.K B [] noH noH F H (L2.wipe σ vs) ρ fp → R X.K F v d → t d ρ = some ρ' →
      ∀ Q : L2.St → Hp → Prop, (∀ σ' fp', StOk X.K B [] noH noH F H σ' ρ' fp' → L2.wipe σ' vs = L2.wipe σ vs → Q σ' H) → g v (L2.wipe σ vs) H Q
structure CompW (K : PySem.W.Frag) (B : List Addr) (n : Nat) (F1 H1 : Hp) (Da : Addr) (F H : Hp) (va : List V) (da : List D) (ga : List Addr) : Prop where
  s : Step B [] F1 H1 F H
  at_ : H Da = some (.lst va)
  own : OwnL (Own K F H n) va da ga
  out : ∀ a ∈ ga, F a = none ∧ a ∉ B ∧ H1 a = none
  nd : (Da :: ga).Nodup
  FD : F Da = none
theorem CompW.step {Da : Addr} {va : List V} {da : List D} {ga : List Addr} (hD : H1 Da = none) (hB : Da ∉ B) (w : CompW K B n F1 H1 Da F H va da ga) (s : Step B [] F H F' H') : CompW K B n F1 H1 Da F' H' va da ga :=
  ⟨w.s.trans s fun a h => (by cases h), s.same Da _ hB w.at_, w.own.imp fun v d f hf h => Own.mono s.fs (fun a ha o e => s.same a o (w.out a (hf a ha)).2.1 e) h, fun a ha => by
    obtain ⟨o, e, mu⟩ := w.own.there (fun v d f q => Own.there q) a ha
    exact ⟨s.out e mu (w.out a ha).2.1 (w.out a ha).1 (fun z => (by cases z)), (w.out a ha).2⟩, w.nd, s.out w.at_ trivial hB w.FD (fun z => (by cases z))⟩
theorem comp_core {X : Cx} {t : D → Env → Option Env} {fc : FT} {fe : FE} {g : TG} {J : It} {xs : List D} {R : D → Prop} {Q : VK} {Z : Hp} {Da : Addr} {vs : List Nat} {ρw : Env}
    (kg : ∀ (B : List Addr) (F H : Hp) (σ : L2.St) (ρ ρ' : Env) (fp : List Addr) (v : V) (d : D), StOk X.K B [] noH noH F H (L2.wipe σ vs) ρ fp → GK.R X.K F v d → t d ρ = some ρ' →
      ∀ Q : L2.St → Hp → Prop, (∀ σ' fp', StOk X.K B [] noH noH F H σ' ρ' fp' → L2.wipe σ' vs = L2.wipe σ vs → Q σ' H) → g v (L2.wipe σ vs) H Q)
    (S : StOk X.K B [] noH noH F1 H1 (L2.wipe σ vs) ρw fp) (it : ItD X.K B Z F1 J xs) (hZ : ∀ a o, Z a = some o → a ∉ B ∧ H1 a = some o) (hD : H1 Da = none) (hx : compD t fc fe ρw xs [] R)
    (fin : ∀ F H va da ga, CompW X.K B n F1 H1 Da F H va da ga → R (.lst da) → Q (.ref Da) H) :
    ∃ W : Nat → Nat → Hp → Prop, (∃ m, W 0 m (upd H1 Da (.lst []))) ∧ ∀ i m H, W i m H → (J.stop i H ∧ Q (.ref Da) H) ∨ (J.go i H ∧ ∃ Nx : Hp → Prop, (∀ H', Nx H' → ∃ m', m' < m ∧ W (i + 1) m' H') ∧ ∀ x H', J.yld i H x H' →
      g x (L2.wipe σ vs) H' fun σ2 H2 => L2.wipe σ2 vs = L2.wipe σ vs ∧ tDT X.K B fc σ2 H2 fun b H3 => if b = true then tD X.K B (.own n) fe σ2 H3 fun y H4 => ∃ acc, H4 Da = some (.lst acc) ∧ acc.length < sizeLine ∧ Nx (upd H4 Da (.lst (acc ++ [y]))) else Nx H3) := by
  have hB : Da ∉ B := S.wf.notB hD
  have hF : F1 Da = none := F_none S.wf hD
  refine ⟨fun i m H => ∃ F va da ga, CompW X.K B n F1 H1 Da F H va da ga ∧ m = xs.length - i ∧ i ≤ xs.length ∧ compD t fc fe ρw (xs.drop i) da R,
    ⟨xs.length, F1, [], [], [], ⟨(Step.refl S.wf).mutNew hD hF hB rfl, upd_same, rfl, fun a h => (by cases h), by simp, hF⟩, rfl, Nat.zero_le _, hx⟩, ?_⟩
  rintro i m H ⟨F, va, da, ga, w, rfl, hi, hr⟩
  obtain ⟨k1, k2⟩ := it i F H w.s.wf (fun a o e => w.s.same a o (hZ a o e).1 (hZ a o e).2) w.s.fs
  by_cases hlt : i < xs.length
  · refine .inr ⟨(k1 hlt).1, fun H' => ∃ F va da ga, CompW X.K B n F1 H1 Da F H' va da ga ∧ compD t fc fe ρw (xs.drop (i + 1)) da R, fun H' ⟨F, va, da, ga, w, h⟩ => ⟨xs.length - (i + 1), by omega, F, va, da, ga, w, rfl, hlt, h⟩, fun x H' y => ?_⟩
    obtain ⟨F2, d, ed, s2, r2⟩ := (k1 hlt).2 x H' y
    have w2 := w.step hD hB s2
    rw [List.drop_eq_getElem_cons hlt] at hr
    have ed' : xs[i] = d := Option.some.inj ((List.getElem?_eq_getElem hlt).symm.trans ed)
    rw [ed'] at hr
    obtain ⟨ρ', et, hb'⟩ := hr
    refine kg B F2 H' σ ρw ρ' fp x d (S.step w2.s fun a h => (by cases h)) r2 et _ fun σ2 fp2 S3 hw => ⟨hw, ?_⟩
    refine ⟨F2, ρ', fp2, _, S3, hb', fun F3 H3 b s3 hb => ?_⟩
    have w3 := w2.step hD hB s3
    cases b with
    | false =>
      dsimp only at hb ⊢
      rw [if_neg Bool.false_ne_true] at hb ⊢
      exact ⟨F3, va, da, ga, w3, hb⟩
    | true =>
      dsimp only at hb ⊢
      rw [if_pos rfl] at hb ⊢
      refine ⟨F3, ρ', fp2, _, S3.step s3 (fun a h => by cases h), hb, fun F4 H4 yv yd fy s4 hy oy ny ⟨hz, hk⟩ => ?_⟩
      have w4 := w3.step hD hB s4
      have hl : va.length = da.length := w.own.len
      have fresh : ∀ a ∈ fy, H3 a = none := fun a ha => (oy a ha).1.elim (fun z => by cases z) id
      have hDy : Da ∉ fy := fun z => by
        have := fresh Da z
        rw [w3.at_] at this; cases this
      have hDg : Da ∉ ga := (List.nodup_cons.mp w.nd).1
      refine ⟨va, w4.at_, by rw [hl]; exact hz, F4, va ++ [yv], da ++ [yd], ga ++ fy, ⟨w4.s.mutNew hD w4.FD hB rfl, upd_same, (w4.own.upd hDg).append (OwnL.one (Own.upd (show Own X.K F4 H4 n yv yd fy from hy) hDy)), fun a ha => ?_, ?_, w4.FD⟩, hk⟩
      · rcases List.mem_append.mp ha with z | z
        · exact w4.out a z
        · exact ⟨(oy a z).2.1, (oy a z).2.2, w3.s.new (oy a z).2.2 (fresh a z)⟩
      · refine List.nodup_cons.mpr ⟨fun z => (List.mem_append.mp z).elim hDg hDy, List.nodup_append.mpr ⟨(List.nodup_cons.mp w.nd).2, ny, fun a ha b hb e => ?_⟩⟩
        subst e
        obtain ⟨o, e, _⟩ := w3.own.there (fun v d f q => Own.there q) a ha
        rw [fresh a hb] at e; cases e
  · have e : i = xs.length := by omega
    subst e
    rw [List.drop_length] at hr
    exact .inl ⟨k2 (Nat.le_refl _), fin F H va da ga w hr⟩
theorem CompW.post {A : List Addr} {R : D → Prop} {Q : VK} {Da : Addr} {va : List V} {da : List D} {ga : List Addr} (hD : H1 Da = none) (hB : Da ∉ B) (w : CompW K B n F1 H1 Da F H va da ga) (hR : R (.lst da)) (k : Post K B A F1 H1 (.own (n + 1)) R Q) : Q (.ref Da) H :=
  k F H _ (.lst da) (Da :: ga) (w.s.weak fun a h => (by cases h)) ⟨Da, va, ga, rfl, w.at_, rfl, w.own⟩ (fun a ha => by
    rcases List.mem_cons.mp ha with z | z
    · rw [z]; exact ⟨.inr hD, w.FD, hB⟩
    · exact ⟨.inr (w.out a z).2.2, (w.out a z).1, (w.out a z).2.1⟩) w.nd hR
end
section
variable {X : Cx} {elt tg iter : Expr} {ifs : List Expr} {scope : Scope} {own : List (Str × Nat)} {pos : Pos} {fi : FI} {f fe : FE} {fc : FT} {t : D → Env → Option Env} {n : Nat}
def gComp (fi : FI) (t : D → Env → Option Env) (fc : FT) (fe : FE) (vs : List Nat) : FE := fun ρ R => fi ρ fun xs => compD t fc fe (wipeE ρ vs) xs [] R
abbrev DTs (X : Cx) (B : List Addr) (ifs : List Expr) (f : FT) : Prop := PTs X ifs (tDT X.K B f)
theorem dts_nil : DTs X B [] (fun _ R => R true) := ⟨fun pins s σ H Q I ⟨F, ρ, fp, R, S, hf, k⟩ => pts_nil.run pins s σ H Q I (k F H true (Step.refl S.wf) hf)⟩
theorem dts_one {c : Expr} (h : DT X B c fc) : DTs X B [c] fc := pts_one h
theorem tD_lc {wi : TI} {g : TG} {σ : L2.St} {H : Hp} {Q : VK} {vs : List Nat} (hwi : ∀ σ H R, tDI X.K B fi σ H R → wi σ H R)
    (kg : ∀ (B : List Addr) (F H : Hp) (σ : L2.St) (ρ ρ' : Env) (fp : List Addr) (v : V) (d : D), StOk X.K B [] noH noH F H (L2.wipe σ vs) ρ fp → R X.K F v d → t d ρ = some ρ' →
      ∀ Q : L2.St → Hp → Prop, (∀ σ' fp', StOk X.K B [] noH noH F H σ' ρ' fp' → L2.wipe σ' vs = L2.wipe σ vs → Q σ' H) → g v (L2.wipe σ vs) H Q)
    (h : tD X.K B (.own (n + 1)) (gComp fi t fc fe vs) σ H Q) : tLc wi g (tDT X.K B fc) (tD X.K B (.own n) fe) vs σ H Q := by
  obtain ⟨F, ρ, fp, R, S, hf, k⟩ := h
  refine hwi σ H _ ⟨F, ρ, fp, _, S, hf, fun J F1 H1 xs s1 it hx Da hD => ?_⟩
  have S1 := S.step s1 fun a h => (by cases h)
  obtain ⟨fpw, Sw, _⟩ := S1.wipe vs
  refine comp_core (n := n) kg Sw it (fun a o e => ?_) hD hx fun F H va da ga w hR => w.post hD (S1.wf.notB hD) hR (k.after s1 (A1 := []) fun a h => (by cases h))
  by_cases c : a ∈ fp ∨ a ∈ B
  · rw [prot_in c] at e; cases e
  · unfold prot at e
    rw [if_neg c] at e
    exact ⟨fun z => c (.inr z), e⟩
theorem de_lc (n : Nat) (hc : X.calm = true) (hN : X.N.Nodup) (hi : DI X B tg iter fi) (ok : BlkOk X.N X.env.scope scope own) (hg : DGc X tg (own.map (·.2)) t) (hol : ∀ v ∈ own.map (·.2), ∃ x, X.N[v]? = some x ∧ ∀ C cl, (compEnvC scope cl C X.env).scope.names.lookup x = some .local)
    (ht : ∀ (s : Shared) (H : Hp) (C : Addr) (cl : List (Str × Addr)) (fp : List Addr), DTs (X.blk s H scope (compEnvC scope cl C X.env) fp) B ifs fc)
    (he : ∀ (s : Shared) (H : Hp) (C : Addr) (cl : List (Str × Addr)) (fp : List Addr), DE (X.blk s H scope (compEnvC scope cl C X.env) fp) B elt (.own n) fe) (hs : ∀ x, foldedSetIterable iter X.env x = pure x := by intro _; rfl) :
    DE X B (.ListComp elt [⟨tg, iter, ifs, 0⟩] scope pos) (.own (n + 1)) (gComp fi t fc fe (own.map (·.2))) := by
  obtain ⟨g, pg, kg⟩ := hg.ok
  exact PE.imp (pe_lc hc hN hi ok (fun s H C cl fp => pg s H scope C cl fp hol) ht he hs) fun σ H Q q => tD_lc (fun _ _ _ h => h) kg q
/-- y = [..] on one line, y a local -/
theorem ds_setLc (i n : Nat) {pin : Nat} {mr : Mode} {y : Str} {py spos : Pos} (hc : X.calm = true) (hN : X.N.Nodup) (hy : X.N[i]? = some y) (hyl : X.env.scope.names.lookup y = some .local) (hp : pin ≤ i)
    (hsw : swapsWith (.ListComp elt [⟨tg, iter, ifs, 0⟩] scope pos) (some (.Name y py)) spos.line X.env = pure true) (hi : DI X B tg iter fi) (ok : BlkOk X.N X.env.scope scope own) (hg : DGc X tg (own.map (·.2)) t) (hol : ∀ v ∈ own.map (·.2), ∃ x, X.N[v]? = some x ∧ ∀ C cl, (compEnvC scope cl C X.env).scope.names.lookup x = some .local)
    (ht : ∀ (s : Shared) (H : Hp) (C : Addr) (cl : List (Str × Addr)) (fp : List Addr), DTs (X.blk s H scope (compEnvC scope cl C X.env) fp) B ifs fc)
    (he : ∀ (s : Shared) (H : Hp) (C : Addr) (cl : List (Str × Addr)) (fp : List Addr), DE (X.blk s H scope (compEnvC scope cl C X.env) fp) B elt (.own n) fe) (hs : ∀ x, foldedSetIterable iter X.env x = pure x := by intro _; rfl) :
    DS X B (.Assign [.Name y py] (.ListComp elt [⟨tg, iter, ifs, 0⟩] scope pos) spos) pin mr (fun E ρ => gComp fi t fc fe (own.map (·.2)) ρ fun d => i < ρ.length ∧ E.nx (ρ.set i (some (n + 1, d)))) := by
  obtain ⟨g, pg, kg⟩ := hg.ok
  refine PS.imp (ps_setLc (tt := tDT X.K B fc) (te := tD X.K B (.own n) fe) hc hN hy hyl hsw hi ok (fun s H C cl fp => pg s H scope C cl fp hol) ht he hs) fun Dn σ H ⟨Pn, Z0, F0, F, ρ, fp, E, hpl, S, hf, L⟩ => ?_
  refine tD_lc (Q := fun x H1 => Dn.nx (σ.set i (some x)) H1) (fun _ _ _ h => h) kg (tDM_of (pin := pin) (K := X.K) ⟨Pn, Z0, F0, F, ρ, fp, fun d ρ' => i < ρ'.length ∧ E.nx (ρ'.set i (some (n + 1, d))), hpl, S, hf, fun F' H' ρ' fp' v d f' S' hv ap hR => ?_⟩)
  obtain ⟨fp2, S2⟩ := S'.set hv ap hR.1 (by omega)
  exact L.nx F' H' _ _ fp2 S2 hR.2
theorem dgc_name {x : Str} {p : Pos} (i : Nat) (hN : X.N.Nodup) (hi : X.N[i]? = some x) : DGc X (.Name x p) [i] (tgN i) :=
  ⟨gName i, fun s H scope C cl fp hl => by
    obtain ⟨y, e, hy⟩ := hl i (by simp)
    rw [hi] at e; cases e
    exact pg_name hN hi (.inl (hy C cl)) (.inr (hy C cl)), fun B F H σ ρ ρ' fp v d S r e Q k => by
    unfold tgN at e
    split at e
    · rename_i hi'
      cases e
      obtain ⟨fp', S'⟩ := S.set (n := 0) (f := []) (i := i) ⟨r, rfl⟩ .nil hi' (Nat.zero_le _)
      refine k _ fp' S' ?_
      show ((σ.set i none).set i (some v)).set i none = σ.set i none
      rw [List.set_set, List.set_set]
    · cases e⟩
end
end GK

namespace GK
open PySem PySem.Spec PyProof.Rows L2

/-! ### comprehensions over a dict: it is locked meanwhile -/
/-- H' is H, or H with a dict locked -/
def Lk (X : Cx) (B : List Addr) (H H' : Hp) : Prop := H' = H ∨ ∃ a od u, H a = some u ∧ isDct u ∧ a ∉ B ∧ H' = upd H a (.frz od u) ∧ ∀ o' u', X.H_0 a ≠ some (.frz o' u')
section
variable {K : PySem.W.Frag} {B A fp : List Addr} {F F1 F' H H1 H' : Hp} {σ : L2.St} {ρ : Env} {n : Nat}
theorem Step.unlockd {a : Addr} {od : Obj} {u : HO} (h : H1 a = some u) (hd : isDct u) (hB : a ∉ B) (s : Step B A F1 (upd H1 a (.frz od u)) F H) : Step B A F1 H1 F (upd H a u) := by
  have ha : H a = some (.frz od u) := s.same a _ hB upd_same
  refine ⟨fun b o hb e => ?_, s.fs, fun b w e => ?_, s.wf.unlockd ha hd hB⟩
  · by_cases c : b = a
    · subst c; rw [h] at e; cases e; exact upd_same
    · rw [upd_ne c]; exact s.same b o hb (by rw [upd_ne c]; exact e)
  · rcases s.fresh b w e with z | z | z | z
    · exact .inl z
    · right; left
      by_cases c : b = a
      · subst c; rw [upd_same] at z; cases z
      · rw [upd_ne c] at z; exact z
    · exact .inr (.inr (.inl z))
    · exact .inr (.inr (.inr z))
theorem CompW.unlockd {Da a : Addr} {od : Obj} {u : HO} {va : List V} {da : List D} {ga : List Addr} (h : H1 a = some u) (hd : isDct u) (hB : a ∉ B) (hD : H1 Da = none) (w : CompW K B n F1 (upd H1 a (.frz od u)) Da F H va da ga) : CompW K B n F1 H1 Da F (upd H a u) va da ga := by
  have hne : Da ≠ a := fun z => by rw [z, h] at hD; cases hD
  have hga : a ∉ ga := fun z => by
    have := (w.out a z).2.2
    rw [upd_same] at this; cases this
  refine ⟨w.s.unlockd h hd hB, by rw [upd_ne hne]; exact w.at_, w.own.upd hga, fun b hb => ?_, w.nd, w.FD⟩
  obtain ⟨q1, q2, q3⟩ := w.out b hb
  have c : b ≠ a := fun z => by subst z; exact hga hb
  exact ⟨q1, q2, by rw [upd_ne c] at q3; exact q3⟩
theorem unl_fin {X : Cx} {v : V} {Q : VK} (l : Lk X B H1 H') (s : Step B [] F1 H' F H) (k1 : H' = H1 → Q v H) (k2 : ∀ a od u, H1 a = some u → isDct u → a ∉ B → H' = upd H1 a (.frz od u) → Q v (upd H a u)) : unlQ X Q v H := by
  rcases l with e | ⟨a, od, u, h1, h2, h3, e, h4⟩
  · exact .inl (k1 e)
  · subst e
    exact .inr ⟨a, od, u, s.same a _ h3 upd_same, h4, k2 a od u h1 h2 h3 rfl⟩
/-- an iterator over the keys of a dict that may be read; the dict is locked -/
theorem keys_ti {X : Cx} {f : FE} {Rx : List D → Prop} {Rt : It → Hp → Prop} (S : StOk X.K B [] noH noH F H σ ρ fp) (hf : f ρ (ksOf Rx))
    (k : ∀ J F1 H1 H1' xs, Step B [] F H F1 H1 → Rx xs → StOk X.K B [] noH noH F1 H1' σ ρ fp → Lk X B H1 H1' → (∀ a, H1' a = none ↔ H1 a = none) → ItD X.K B (prot B fp H1') F1 J xs → Rt J H1') :
    iKeys (fun σ H Q => tD X.K B (.own 0) f σ H fun x H1 => Q x H1 ∨ ∃ d u, H1 d = some u ∧ Mut (some u) ∧ ∀ od, (∀ o' u', X.H_0 d ≠ some (.frz o' u')) → Q x (upd H1 d (.frz od u))) σ H Rt := by
  refine ⟨F, ρ, fp, _, S, hf, fun F1 H1 v d f1 s1 hv o1 n1 hR => ?_⟩
  have S1 := S.step s1 fun a h => (by cases h)
  obtain ⟨ks, ek, hR⟩ := hR
  have hno : ∀ {a : Addr} {od : Obj} {u : HO}, H1 a = some u → ∀ b, upd H1 a (.frz od u) b = none ↔ H1 b = none := fun {a od u} h b => by
    by_cases c : b = a
    · subst c; rw [upd_same, h]; exact ⟨fun z => (by cases z), fun z => (by cases z)⟩
    · rw [upd_ne c]
  have lockS : ∀ {a : Addr} {od : Obj} {u : HO}, H1 a = some u → isDct u → a ∉ B → a ∉ fp → StOk X.K B [] noH noH F1 (upd H1 a (.frz od u)) σ ρ fp := fun h hd hB hfp => (S1.locked h hd hB hfp).base
  cases d <;> try (cases ek; done)
  · obtain ⟨a, kvs, rfl, h1, hk, r⟩ := hv.1.dKI
    have ek' := Option.some.inj ek
    subst ek'
    have hfp : a ∉ fp := fun z => by rw [(S1.out a z).1] at h1; cases h1
    obtain ⟨hB, x, ex, er⟩ := rdH_some (S1.wf.sub a _ h1)
    have cs : x = .dK kvs ∨ ∃ od, x = .frz od (.dK kvs) := by
      cases x <;> first | (left; exact er) | skip
      rename_i od u
      right
      have er' : u = .dK kvs := er
      exact ⟨od, by rw [er']⟩
    rcases cs with rfl | ⟨od, rfl⟩
    · exact .inr ⟨a, _, ex, trivial, fun od hn => ⟨a, od, rfl, .inl ⟨kvs, upd_same, k _ F1 H1 _ _ s1 hR (lockS ex trivial hB hfp) (.inr ⟨a, od, _, ex, trivial, hB, rfl, hn⟩) (hno ex) (itD_keys (by rw [prot_out hfp hB]; exact upd_same) hk)⟩⟩⟩
    · exact .inl ⟨a, od, rfl, .inl ⟨kvs, ex, k _ F1 H1 _ _ s1 hR S1 (.inl rfl) (fun _ => .rfl) (itD_keys (by rw [prot_out hfp hB]; exact ex) hk)⟩⟩
  · obtain ⟨a, kvs, rfl, h1, hk, r⟩ := hv.1.dTI
    have ek' := Option.some.inj ek
    subst ek'
    have hfp : a ∉ fp := fun z => by rw [(S1.out a z).1] at h1; cases h1
    obtain ⟨hB, x, ex, er⟩ := rdH_some (S1.wf.sub a _ h1)
    have cs : x = .dT kvs ∨ ∃ od, x = .frz od (.dT kvs) := by
      cases x <;> first | (left; exact er) | skip
      rename_i od u
      right
      have er' : u = .dT kvs := er
      exact ⟨od, by rw [er']⟩
    rcases cs with rfl | ⟨od, rfl⟩
    · exact .inr ⟨a, _, ex, trivial, fun od hn => ⟨a, od, rfl, .inr ⟨kvs, upd_same, k _ F1 H1 _ _ s1 hR (lockS ex trivial hB hfp) (.inr ⟨a, od, _, ex, trivial, hB, rfl, hn⟩) (hno ex) (itD_keysT (by rw [prot_out hfp hB]; exact upd_same) hk)⟩⟩⟩
    · exact .inl ⟨a, od, rfl, .inr ⟨kvs, ex, k _ F1 H1 _ _ s1 hR S1 (.inl rfl) (fun _ => .rfl) (itD_keysT (by rw [prot_out hfp hB]; exact ex) hk)⟩⟩
theorem prot_sub {a : Addr} {o : HO} (e : prot B fp H a = some o) : a ∉ B ∧ H a = some o := by
  by_cases c : a ∈ fp ∨ a ∈ B
  · rw [prot_in c] at e; cases e
  · unfold prot at e
    rw [if_neg c] at e
    exact ⟨fun z => c (.inr z), e⟩
end
section
variable {X : Cx} {elt tg iter : Expr} {ifs : List Expr} {scope : Scope} {own : List (Str × Nat)} {pos : Pos} {f fe : FE} {fc : FT} {t : D → Env → Option Env} {n : Nat}
theorem tD_lcK {g : TG} {σ : L2.St} {H : Hp} {Q : VK} {vs : List Nat}
    (kg : ∀ (B : List Addr) (F H : Hp) (σ : L2.St) (ρ ρ' : Env) (fp : List Addr) (v : V) (d : D), StOk X.K B [] noH noH F H (L2.wipe σ vs) ρ fp → R X.K F v d → t d ρ = some ρ' →
      ∀ Q : L2.St → Hp → Prop, (∀ σ' fp', StOk X.K B [] noH noH F H σ' ρ' fp' → L2.wipe σ' vs = L2.wipe σ vs → Q σ' H) → g v (L2.wipe σ vs) H Q)
    (h : tD X.K B (.own (n + 1)) (gComp (fun ρ R => f ρ (ksOf R)) t fc fe vs) σ H Q) :
    tLc (iKeys (fun σ H Q => tD X.K B (.own 0) f σ H fun x H1 => Q x H1 ∨ ∃ d u, H1 d = some u ∧ Mut (some u) ∧ ∀ od, (∀ o' u', X.H_0 d ≠ some (.frz o' u')) → Q x (upd H1 d (.frz od u)))) g (tDT X.K B fc) (tD X.K B (.own n) fe) vs σ H (unlQ X Q) := by
  obtain ⟨F, ρ, fp, R, S, hf, k⟩ := h
  refine keys_ti (Rx := fun xs => compD t fc fe (wipeE ρ vs) xs [] R) S hf fun J F1 H1 H1' xs s1 hx S1 lk hno it Da hD => ?_
  obtain ⟨fpw, Sw, _⟩ := S1.wipe vs
  refine comp_core (n := n) kg Sw it (fun a o e => prot_sub e) hD hx fun F H va da ga w hR => ?_
  have hD1 : H1 Da = none := (hno Da).mp hD
  have hB : Da ∉ B := S1.wf.notB hD
  refine unl_fin lk w.s (fun e => ?_) fun a od u h1 h2 h3 e => ?_
  · subst e
    exact w.post hD1 hB hR (k.after s1 (A1 := []) fun a h => (by cases h))
  · subst e
    exact (w.unlockd h1 h2 h3 hD1).post hD1 hB hR (k.after s1 (A1 := []) fun a h => (by cases h))
theorem de_lcK (n : Nat) (hc : X.calm = true) (hN : X.N.Nodup) (hi : DE X B iter (.own 0) f) (ok : BlkOk X.N X.env.scope scope own) (hg : DGc X tg (own.map (·.2)) t) (hol : ∀ v ∈ own.map (·.2), ∃ x, X.N[v]? = some x ∧ ∀ C cl, (compEnvC scope cl C X.env).scope.names.lookup x = some .local)
    (ht : ∀ (s : Shared) (H : Hp) (C : Addr) (cl : List (Str × Addr)) (fp : List Addr), DTs (X.blk s H scope (compEnvC scope cl C X.env) fp) B ifs fc)
    (he : ∀ (s : Shared) (H : Hp) (C : Addr) (cl : List (Str × Addr)) (fp : List Addr), DE (X.blk s H scope (compEnvC scope cl C X.env) fp) B elt (.own n) fe) (hs : ∀ x, foldedSetIterable iter X.env x = pure x := by intro _; rfl) :
    DE X B (.ListComp elt [⟨tg, iter, ifs, 0⟩] scope pos) (.own (n + 1)) (gComp (fun ρ R => f ρ (ksOf R)) t fc fe (own.map (·.2))) := by
  obtain ⟨g, pg, kg⟩ := hg.ok
  exact PE.imp (pe_unl (pe_lc hc hN (pi_keys (pe_lockA hi)) ok (fun s H C cl fp => pg s H scope C cl fp hol) ht he hs)) fun σ H Q q => tD_lcK kg q
theorem ds_setLcK (i n : Nat) {pin : Nat} {mr : Mode} {y : Str} {py spos : Pos} (hc : X.calm = true) (hN : X.N.Nodup) (hy : X.N[i]? = some y) (hyl : X.env.scope.names.lookup y = some .local) (hp : pin ≤ i)
    (hsw : swapsWith (.ListComp elt [⟨tg, iter, ifs, 0⟩] scope pos) (some (.Name y py)) spos.line X.env = pure true) (hi : DE X B iter (.own 0) f) (ok : BlkOk X.N X.env.scope scope own) (hg : DGc X tg (own.map (·.2)) t) (hol : ∀ v ∈ own.map (·.2), ∃ x, X.N[v]? = some x ∧ ∀ C cl, (compEnvC scope cl C X.env).scope.names.lookup x = some .local)
    (ht : ∀ (s : Shared) (H : Hp) (C : Addr) (cl : List (Str × Addr)) (fp : List Addr), DTs (X.blk s H scope (compEnvC scope cl C X.env) fp) B ifs fc)
    (he : ∀ (s : Shared) (H : Hp) (C : Addr) (cl : List (Str × Addr)) (fp : List Addr), DE (X.blk s H scope (compEnvC scope cl C X.env) fp) B elt (.own n) fe) (hs : ∀ x, foldedSetIterable iter X.env x = pure x := by intro _; rfl) :
    DS X B (.Assign [.Name y py] (.ListComp elt [⟨tg, iter, ifs, 0⟩] scope pos) spos) pin mr (fun E ρ => gComp (fun ρ R => f ρ (ksOf R)) t fc fe (own.map (·.2)) ρ fun d => i < ρ.length ∧ E.nx (ρ.set i (some (n + 1, d)))) := by
  obtain ⟨g, pg, kg⟩ := hg.ok
  refine PS.imp (ps_unl (ps_setLc (tt := tDT X.K B fc) (te := tD X.K B (.own n) fe) hc hN hy hyl hsw (pi_keys (pe_lockA hi)) ok (fun s H C cl fp => pg s H scope C cl fp hol) ht he hs)) fun Dn σ H ⟨Pn, Z0, F0, F, ρ, fp, E, hpl, S, hf, L⟩ => ?_
  refine tD_lcK (Q := fun x H1 => Dn.nx (σ.set i (some x)) H1) kg (tDM_of (pin := pin) (K := X.K) ⟨Pn, Z0, F0, F, ρ, fp, fun d ρ' => i < ρ'.length ∧ E.nx (ρ'.set i (some (n + 1, d))), hpl, S, hf, fun F' H' ρ' fp' v d f' S' hv ap hR => ?_⟩)
  obtain ⟨fp2, S2⟩ := S'.set hv ap hR.1 (by omega)
  exact L.nx F' H' _ _ fp2 S2 hR.2
end
end GK

namespace GK
open PySem PySem.Spec PyProof.Rows L2

/-! ### dict comprehensions, keys of either kind -/
section
variable {X : Cx} {pins : List (Addr × Obj)} {σ : L2.St} {H : Hp} {s : Shared}
/-- what a comprehension puts -/
theorem put_comp {E : Value → Shared → Prop} {Q : Unit → Shared → Prop} {a : Addr} {y v : V} {u r : Value} {H' : Hp} (hu : X.A.units + 1 < cLine) (I : L2.Inv X pins σ H s) (g : DPut H a y v H') (ry : RelV y u) (rv : RelV v r) (h : ∀ s', L2.Inv X pins σ H' s' → Q () s') :
    wpAny (model X.prog X.w) X.A (dictSet a u r) Q E s := by
  rcases g with ⟨kvs, k, e, rfl, hl, rfl⟩ | ⟨kvs, k, b, e, rfl, eb, hl, rfl⟩
  · exact d_dictSet I e hl ry rv h
  · obtain rfl : u = Value.ref b := ry
    obtain ⟨z, nd, ws, rel, at_⟩ := dt_of I.hok e
    have le : (putK kvs k v).length ≤ sizeLine := Nat.le_trans (length_putK kvs k v) hl
    refine wpAny_dictSet_heap (hsz := by rw [← Paired.length rel]; exact z) (show X.A.units < cLine from Nat.lt_of_succ_lt hu) (key_of I.hok eb) at_ fun h2 at2 same => ?_
    obtain ⟨q, es, ep, k1, k2, k3, k4, _, k5⟩ := at2
    refine h _ (d_write I (by rw [e]; trivial) same ⟨q, k1⟩ ⟨le, nd, _, (rel.put k eb rv).keeps fun c ys ec => ?_, q, es, ep, k1, k2, k3, k4, k5⟩)
    rw [upd_ne (ne_of ec e fun z => nomatch z), ec]
/-- the new dict -/
def emH : Bool → HO
  | false => .dK []
  | true => .dT []
def emD : Bool → D
  | false => .dK []
  | true => .dT []
theorem em_ok (b : Bool) (h : Heap) {P : Program} {w : World} {H : Hp} (hb : sysModules < h.objs.size) : ObjOk P w H (h.push { cls := .type "dict", data := .dict #[] }) h.objs.size (emH b) := by
  cases b with
  | false => exact dk_empty h hb
  | true => exact dt_empty h hb
/-- {k: v for tg in iter if ..} -/
def tDcB (bk : Bool) (wi : TI) (g : TG) (tt : TT) (tk tv : TE) (vs : List Nat) : TE := fun σ H Q => wi σ H fun J H1 => ∀ Da, H1 Da = none → ∃ W : Nat → Nat → Hp → Prop, (∃ m, W 0 m (upd H1 Da (emH bk))) ∧ ∀ i m H, W i m H →
  (J.stop i H ∧ Q (.ref Da) H) ∨ (J.go i H ∧ ∃ Nx : Hp → Prop, (∀ H', Nx H' → ∃ m', m' < m ∧ W (i + 1) m' H') ∧ ∀ x H', J.yld i H x H' → g x (L2.wipe σ vs) H' fun σ2 H2 => L2.wipe σ2 vs = L2.wipe σ vs ∧ tt σ2 H2 fun b H3 =>
    if b = true then tk σ2 H3 fun y H4 => tv σ2 H4 fun z H5 => ∃ H6, DPut H5 Da y z H6 ∧ Nx H6 else Nx H3)
theorem dcB_core {pins : List (Addr × Obj)} {s : Shared} {σ : L2.St} {H : Hp} {Q : VK} {use : Option (Value → Sem Unit)} {Qf : Value → Shared → Prop} {pos' : Pos} {bk : Bool} {kx vx tg iter : Expr} {ifs : List Expr} {scope : Scope} {own : List (Str × Nat)} {pos : Pos} {wi : TI} {g : TG} {tt : TT} {tk tv : TE} (hu : X.A.units + 1 < cLine) (hc : X.calm = true) (hN : X.N.Nodup) (I : L2.Inv X pins σ H s) (hi : PI X tg iter wi) (ok : BlkOk X.N X.env.scope scope own)
    (hg : ∀ (s : Shared) (H : Hp) (C : Addr) (cl : List (Str × Addr)) (fp : List Addr), PG (X.blk s H scope (compEnvC scope cl C X.env) fp) tg g) (ht : ∀ (s : Shared) (H : Hp) (C : Addr) (cl : List (Str × Addr)) (fp : List Addr), PTs (X.blk s H scope (compEnvC scope cl C X.env) fp) ifs tt)
    (hk : ∀ (s : Shared) (H : Hp) (C : Addr) (cl : List (Str × Addr)) (fp : List Addr), PE (X.blk s H scope (compEnvC scope cl C X.env) fp) kx tk)
    (hv : ∀ (s : Shared) (H : Hp) (C : Addr) (cl : List (Str × Addr)) (fp : List Addr), PE (X.blk s H scope (compEnvC scope cl C X.env) fp) vx tv) (hs : ∀ x, foldedSetIterable iter X.env x = pure x)
    (h : tDcB bk wi g tt tk tv (own.map (·.2)) σ H Q)
    (hRR : ∀ Da C s' m H', L2.Inv X pins σ H' s' → Q (.ref Da) H' → s'.heap.Ns C m → FpOk X pins H' C → compPost (model X.prog X.w) X.A X.xe use Qf (.ref Da) C (.ok .next) s') :
    wpAny (model X.prog X.w) X.A (comprehension (.DictComp kx vx [⟨tg, iter, ifs, 0⟩] scope pos) scope X.env pos' newDict false (eval iter X.env) use) Qf X.xe s := by
  have clos : ∀ y ∈ scope.names, y.2 = .free → ∃ c, X.env.cells.lookup y.1 = some c := fun y hy e => (ok.free y hy e).elim (fun k => I.ok.has _ (.inl k)) fun k => I.ok.has _ (.inr k)
  refine wpAny_comprehension_free (use := use) rfl hs (closure_ok clos) ok.kind (fun y hy e => by rw [ok.uniq y hy, e]) (thn (hi.run pins s σ H _ I h) fun xv sA hx => thn hx fun itv sB hB => ?_)
  obtain ⟨it, fp, tn, J, HB, rfl, IB, T, stB, fB, q⟩ := hB
  refine wpAny_newObj_type (newEnv_comp ?_)
  obtain ⟨Da, hDa⟩ : ∃ n, n = sB.heap.objs.size := ⟨_, rfl⟩
  have hfree : HB Da = none := IB.hok.fresh (Nat.le_of_eq hDa.symm)
  obtain ⟨W, ⟨m0, w0⟩, turn⟩ := q Da hfree
  rw [← hDa]
  obtain ⟨sC, hsC⟩ : ∃ x : Shared, x = { sB with heap := sB.heap.push { cls := .type "dict", data := .dict #[] } } := ⟨_, rfl⟩
  have hC : sC.heap = sB.heap.push { cls := .type "dict", data := .dict #[] } := by rw [hsC]
  obtain ⟨HC, hHC⟩ : ∃ x : Hp, x = upd HB Da (emH bk) := ⟨_, rfl⟩
  have IC : L2.Inv X pins σ HC sC := by
    rw [hHC, hsC]
    exact IB.laid (t' := sB.toks) (fun b o e => Heap.get?_push_of_some _ e) (Nat.le_of_eq hDa.symm) (hDa ▸ em_ok bk sB.heap IB.big)
  rw [← hsC]
  rw [← hHC] at w0
  have small : ∀ b ∈ fp, b < sB.heap.objs.size := fun b hb => (T.obj _ _ stB b hb).elim fun o h => Heap.lt_size h.1
  have fC : ∀ b ∈ fp, FpOk X pins HC b ∧ b < sC.heap.objs.size := fun b hb =>
    ⟨⟨by rw [hHC, upd_ne (by rw [hDa]; exact Nat.ne_of_lt (small b hb))]; exact (fB b hb).1, (fB b hb).2⟩, by rw [hC, Heap.size_push]; exact Nat.lt_succ_of_lt (small b hb)⟩
  have stC : tn 0 sC.heap := T.keep _ _ _ stB fun b _ o e => by rw [hC]; exact Heap.get?_push_of_some _ e
  have I0 := block_start IC ok hN fC
  have hlp : ∀ b ∈ fp, HC b = none := fun b hb => (fC b hb).1.1
  have pg := hg sC HC sC.heap.objs.size (cellsFrom (sC.heap.objs.size + 1) scope.names (cloFrom X.env.cells scope.names [])) fp
  have pt := ht sC HC sC.heap.objs.size (cellsFrom (sC.heap.objs.size + 1) scope.names (cloFrom X.env.cells scope.names [])) fp
  have pk := hk sC HC sC.heap.objs.size (cellsFrom (sC.heap.objs.size + 1) scope.names (cloFrom X.env.cells scope.names [])) fp
  have pv := hv sC HC sC.heap.objs.size (cellsFrom (sC.heap.objs.size + 1) scope.names (cloFrom X.env.cells scope.names [])) fp
  change codeAny _ _ (.compStart (.DictComp kx vx [⟨tg, iter, ifs, 0⟩] scope pos) 0 (.ref it) (.ref Da) (compEnvC scope (cellsFrom (sC.heap.objs.size + 1) scope.names (cloFrom X.env.cells scope.names [])) sC.heap.objs.size X.env)) (compPost (model X.prog X.w) X.A X.xe use Qf (.ref Da) sC.heap.objs.size) { sC with heap := pushCells (sC.heap.push { cls := .type "dict", data := .dict #[] }) scope.names }
  generalize hce : compEnvC scope (cellsFrom (sC.heap.objs.size + 1) scope.names (cloFrom X.env.cells scope.names [])) sC.heap.objs.size X.env = ce at I0 pg pt pk pv ⊢
  have cL : ce.locals = sC.heap.objs.size := by rw [← hce]; rfl
  generalize hsE : ({ sC with heap := pushCells (sC.heap.push { cls := .type "dict", data := .dict #[] }) scope.names } : Shared) = sE at I0 ⊢
  have stE : tn 0 sE.heap := T.keep _ _ _ stC fun b _ o e => by rw [← hsE]; exact pushCells_keeps _ _ _ _ (Heap.get?_push_of_some _ e)
  have stat : ∀ {σ' : L2.St} {H' : Hp} {s' : Shared}, L2.Inv (X.blk sC HC scope ce fp) [] σ' H' s' → (∀ b ∈ fp, H' b = none) → ∀ b ∈ fp, FpOk (X.blk sC HC scope ce fp) [] H' b := fun {σ' H' s'} I' hn b hb =>
    ⟨hn b hb, (I'.ok.exf b hb).1, I'.ok.exfs b hb, .inl hb, fun x c e => (I'.ok.exf b hb).2 x c e, fun p hp => by cases hp⟩
  have run := compLoop_anyD (prog := X.prog) (w := X.w) (A := X.A) (kx := kx) (vx := vx) (target := tg) (iter := iter) (ifs := ifs) (scope := scope) (pos := pos) (it := .ref it) (D := Da) (env := ce)
    (R := compPost (model X.prog X.w) X.A X.xe use Qf (.ref Da) sC.heap.objs.size)
    (fun n s' => ∃ i H', L2.Inv (X.blk sC HC scope ce fp) [] (L2.wipe σ (own.map (·.2))) H' s' ∧ tn i s'.heap ∧ (∀ b ∈ fp, H' b = none) ∧ W i n H') (by
      rintro n s5 ⟨i, H5, I5, st5, n5, w5⟩
      rcases turn i n H5 w5 with ⟨stop, qq⟩ | ⟨go, Nx, hNx, step⟩
      · refine thnF (T.done (X.blk sC HC scope ce fp) rfl rfl rfl hc i [] s5 _ H5 (fun _ _ => False) I5 (stat I5 n5) st5 stop) fun r s6 ⟨hr, I6⟩ => ?_
        subst hr
        have I7 : L2.Inv X pins σ H5 s6 := IC.call' (ch := fp) I6.os I6.base I6.hok I6.bare fun b hb => ⟨(fC b hb).1.2.2.2.1, (fC b hb).1.2.1, (fC b hb).1.2.2.2.2.1, (fC b hb).1.2.2.2.2.2⟩
        have nC : H5 sC.heap.objs.size = none := by rw [← cL]; exact I6.free
        obtain ⟨m, hn, _⟩ := I6.loc
        have hn : s6.heap.Ns sC.heap.objs.size m := by rw [← cL]; exact hn
        exact hRR Da sC.heap.objs.size s6 m H5 I7 qq hn (IC.fpOk (Nat.le_refl _) nC)
      · refine thnF (T.item (X.blk sC HC scope ce fp) rfl rfl rfl hc i [] s5 _ H5 (fun _ _ => False) I5 (stat I5 n5) st5 go) fun r s6 ⟨u, hr, h6⟩ => ?_
        subst hr
        refine thnF h6 fun _ s7 ⟨x, H7, I7, r7, y7, st7, n7⟩ => ?_
        refine thnF (pg.run _ s7 _ H7 x u _ (I7.pinned (stat I7 n7) (T.obj _ _ st7)) r7 (step x H7 y7)) fun _ s8 ⟨σ8, H8, I8, hw8, q8⟩ => ?_
        refine thnF (pt.run _ s8 σ8 H8 _ I8 q8) fun b s9 ⟨H9, I9, q9⟩ => ?_
        have fin : ∀ {s' : Shared} {H' : Hp}, L2.Inv (X.blk sC HC scope ce fp) ([] ++ pinsAt fp s7.heap) σ8 H' s' → Nx H' → ∃ m, m < n ∧ ∃ i H', L2.Inv (X.blk sC HC scope ce fp) [] (L2.wipe σ (own.map (·.2))) H' s' ∧ tn i s'.heap ∧ (∀ b ∈ fp, H' b = none) ∧ W i m H' := fun {s' H'} I' nx => by
          obtain ⟨m', hm, w'⟩ := hNx H' nx
          have kept : ∀ b ∈ fp, ∀ o, s7.heap.get? b = some o → s'.heap.get? b = some o ∧ H' b = none := fun b hb o e =>
            (I'.pin (b, o) (List.mem_append_right _ (List.mem_append_right _ (mem_pinsAt hb e)))).imp id fun z => z.1
          refine ⟨m', hm, i + 1, H', (I'.unpinned (pins := [])).weak (by rw [← hw8, wipe_length]) (fun j v e => (wipe_some (by rw [← hw8] at e; exact e)).1), T.keep _ _ _ st7 fun b hb o e => (kept b hb o e).1, fun b hb => ?_, w'⟩
          obtain ⟨o, e, _⟩ := T.obj _ _ st7 b hb
          exact (kept b hb o e).2
        cases b with
        | false =>
          rw [if_neg Bool.false_ne_true] at q9
          rw [if_neg Bool.false_ne_true]
          exact fin I9 q9
        | true =>
          rw [if_pos rfl] at q9
          rw [if_pos rfl]
          refine thnF (pk.run _ s9 σ8 H9 _ I9 q9) fun z sK ⟨yk, HK, IK, rk, qk⟩ => ?_
          refine thnF (pv.run _ sK σ8 HK _ IK qk) fun z2 sV ⟨yv, HV, IV, rv, HP, pt2, nx⟩ => ?_
          exact put_comp (X := X.blk sC HC scope ce fp) hu IV pt2 rk rv fun sP IP => fin IP nx) m0 (s := sE) ⟨0, HC, I0, stE, hlp, w0⟩
  exact codeAny_compStart_dict run (T.self X.A 0 _ _ _ stE run)
theorem pe_dcB {bk : Bool} {kx vx tg iter : Expr} {ifs : List Expr} {scope : Scope} {own : List (Str × Nat)} {pos : Pos} {wi : TI} {g : TG} {tt : TT} {tk tv : TE} (hu : X.A.units + 1 < cLine) (hc : X.calm = true) (hN : X.N.Nodup) (hi : PI X tg iter wi) (ok : BlkOk X.N X.env.scope scope own)
    (hg : ∀ (s : Shared) (H : Hp) (C : Addr) (cl : List (Str × Addr)) (fp : List Addr), PG (X.blk s H scope (compEnvC scope cl C X.env) fp) tg g) (ht : ∀ (s : Shared) (H : Hp) (C : Addr) (cl : List (Str × Addr)) (fp : List Addr), PTs (X.blk s H scope (compEnvC scope cl C X.env) fp) ifs tt)
    (hk : ∀ (s : Shared) (H : Hp) (C : Addr) (cl : List (Str × Addr)) (fp : List Addr), PE (X.blk s H scope (compEnvC scope cl C X.env) fp) kx tk)
    (hv : ∀ (s : Shared) (H : Hp) (C : Addr) (cl : List (Str × Addr)) (fp : List Addr), PE (X.blk s H scope (compEnvC scope cl C X.env) fp) vx tv) (hs : ∀ x, foldedSetIterable iter X.env x = pure x) :
    PE X (.DictComp kx vx [⟨tg, iter, ifs, 0⟩] scope pos) (tDcB bk wi g tt tk tv (own.map (·.2))) := by
  refine ⟨fun pins s σ H Q I h => ?_⟩
  rw [arm_eval_DictComp]
  refine dcB_core hu hc hN I hi ok hg ht hk hv hs h fun Da C s' m H' I' q hn f => ⟨m, hn, fun h2 sb => ?_⟩
  obtain ⟨f0, f1, f2, f3, f4, f5⟩ := f
  exact ⟨.ref Da, H', I'.turned (t' := s'.toks) (fun b o hb e => (sb.2 b hb).trans e) f0 f1 f3 f4 f5, rfl, q⟩
/-- y = {..} on one line, y a plain local -/
theorem ps_setDcB {i : Nat} {y : Str} {py spos : Pos} {bk : Bool} {kx vx tg iter : Expr} {ifs : List Expr} {scope : Scope} {own : List (Str × Nat)} {pos : Pos} {wi : TI} {g : TG} {tt : TT} {tk tv : TE} (hu : X.A.units + 1 < cLine) (hc : X.calm = true) (hN : X.N.Nodup) (hy : X.N[i]? = some y) (hyl : X.env.scope.names.lookup y = some .local) (hsw : swapsWith (.DictComp kx vx [⟨tg, iter, ifs, 0⟩] scope pos) (some (.Name y py)) spos.line X.env = pure true) (hi : PI X tg iter wi) (ok : BlkOk X.N X.env.scope scope own)
    (hg : ∀ (s : Shared) (H : Hp) (C : Addr) (cl : List (Str × Addr)) (fp : List Addr), PG (X.blk s H scope (compEnvC scope cl C X.env) fp) tg g) (ht : ∀ (s : Shared) (H : Hp) (C : Addr) (cl : List (Str × Addr)) (fp : List Addr), PTs (X.blk s H scope (compEnvC scope cl C X.env) fp) ifs tt)
    (hk : ∀ (s : Shared) (H : Hp) (C : Addr) (cl : List (Str × Addr)) (fp : List Addr), PE (X.blk s H scope (compEnvC scope cl C X.env) fp) kx tk)
    (hv : ∀ (s : Shared) (H : Hp) (C : Addr) (cl : List (Str × Addr)) (fp : List Addr), PE (X.blk s H scope (compEnvC scope cl C X.env) fp) vx tv) (hs : ∀ x, foldedSetIterable iter X.env x = pure x) :
    PS X (.Assign [.Name y py] (.DictComp kx vx [⟨tg, iter, ifs, 0⟩] scope pos) spos) (tAsg (tDcB bk wi g tt tk tv (own.map (·.2))) (L2.gName i)) := by
  refine ⟨fun pins s σ H D I h => ?_⟩
  rw [exec_Assign_Name_used _ _ _ _ hsw]
  refine wpAny_bind (wpAny_standAt (wpAny_bind ?_))
  change wpAny _ X.A (do let _ ← comprehension (.DictComp kx vx [⟨tg, iter, ifs, 0⟩] scope pos) scope X.env (firstIterPos [⟨tg, iter, ifs, 0⟩] pos) newDict false (eval iter X.env) (some (assign (.Name y py) X.env))) _ _ s
  have h : tDcB bk wi g tt tk tv (own.map (·.2)) σ H (fun x H1 => L2.gName i x σ H1 D.nx) := h
  refine wpAny_bind (thn (dcB_core (Qf := fun _ s' => SP X pins D .next s') hu hc hN I hi ok hg ht hk hv hs h fun Da C s' m H' I' q hn f => ?_) fun _ s' hq => wpAny_pure (wpAny_pure hq))
  change wpAny _ _ (assign (.Name y py) X.env (.ref Da)) _ _ _
  refine wpAny_assign_Name (store_ok2 (v := V.ref Da) I' hN hy (.inl hyl) rfl (fun s2 I2 ⟨a, sb, ha⟩ => ?_) (.inr hyl))
  obtain ⟨f0, f1, f2, f3, f4, f5⟩ := f
  have haC : C ≠ a := by
    rcases ha with z | z
    · rw [z]; exact f1
    · exact fun e => f4 y a z e.symm
  exact ⟨m, hn.sameBut sb haC, fun h3 sb3 => ⟨_, H', I2.turned (t' := s2.toks) (fun b o hb e => (sb3.2 b hb).trans e) f0 f1 f3 f4 f5, q⟩⟩
theorem sw_trueD {kx vx : Expr} {gs : List Comprehension} {scope : Scope} {pos py : Pos} {y : Str} {l : Nat} {env : PySem.Env} (hk : env.scope.kind = .function) (hy : env.scope.names.lookup y = some .local) (hl : (py.line == pos.line) = true)
    (ha : (scope.names.any fun (n, k) => n == y && (k == .local || k == .cell)) = false) : swapsWith (.DictComp kx vx gs scope pos) (some (.Name y py)) l env = pure true := by
  have ky : env.kindOf y = some .local := hy
  have hb : env.blockKind = .function := by unfold PySem.Env.blockKind; rw [hk]; rfl
  unfold swapsWith
  simp only [hb, ky, ha, Expr.pos, hl]
  rfl
end
end GK

namespace GK
open PySem PySem.Spec PyProof.Rows L2

def putDD : D → D → D → Option D
  | .dK es, k, v => match keyOf k with
    | some k => if es.length < sizeLine then some (.dK (putD es k v)) else none
    | none => none
  | .dT es, k, v => match keyT k with
    | some k => if es.length < sizeLine then some (.dT (putD es k v)) else none
    | none => none
  | _, _, _ => none
def compDD (t : D → Env → Option Env) (fc : FT) (fk fv : FE) (ρ : Env) : List D → D → (D → Prop) → Prop
  | [], acc, R => R acc
  | x :: xs, acc, R => ∃ ρ', t x ρ = some ρ' ∧ fc ρ' fun b => if b = true then fk ρ' fun k => fv ρ' fun v => ∃ acc', putDD acc k v = some acc' ∧ compDD t fc fk fv ρ xs acc' R else compDD t fc fk fv ρ xs acc R
section
variable {K : PySem.W.Frag} {B A fp : List Addr} {F F1 F' H H1 H' : Hp} {σ : L2.St} {ρ : Env}
theorem dput_ok {Da : Addr} {acc acc' k v : D} {y z : V} (w : WF B F H) (o : Own K F H 1 (.ref Da) acc [Da]) (ry : R K F y k) (rz : R K F z v) (e : putDD acc k v = some acc') :
    ∃ u, DPut H Da y z (upd H Da u) ∧ erO u = u ∧ Own K F (upd H Da u) 1 (.ref Da) acc' [Da] := by
  cases acc <;> try (cases e; done)
  · rename_i es
    unfold putDD at e
    dsimp only at e
    split at e
    · rename_i kk ek
      split at e
      · rename_i hz
        cases e
        obtain ⟨a, kvs, f, ea, h1, ef, hk, t⟩ := o
        cases ea
        have hlen : kvs.length = es.length := by have := congrArg List.length hk; simpa using this
        have ey := keyOf_R ek ry
        subst ey
        have ef' : f = [] := (List.cons.inj ef).2.symm
        subst ef'
        exact ⟨_, DPut.k h1 (by rw [hlen]; exact hz), rfl, _, _, [], rfl, upd_same, rfl, put_keys hk, OwnL.zero (put_rl rz hk t.toRL0)⟩
      · cases e
    · cases e
  · rename_i es
    unfold putDD at e
    dsimp only at e
    split at e
    · rename_i kk ek
      split at e
      · rename_i hz
        cases e
        obtain ⟨a, kvs, f, ea, h1, ef, hk, t⟩ := o
        cases ea
        have hlen : kvs.length = es.length := by have := congrArg List.length hk; simpa using this
        cases k <;> try (cases ek; done)
        obtain ⟨ta, ws, rfl, ht, hrl⟩ := ry.tupI
        have ew := keysOf_R ek hrl
        subst ew
        have ef' : f = [] := (List.cons.inj ef).2.symm
        subst ef'
        exact ⟨_, DPut.t h1 (tup_of w (w.sub _ _ ht)) (by rw [hlen]; exact hz), rfl, _, _, [], rfl, upd_same, rfl, put_keys hk, OwnL.zero (put_rl rz hk t.toRL0)⟩
      · cases e
    · cases e
structure DcW (K : PySem.W.Frag) (B : List Addr) (F1 H1 : Hp) (Da : Addr) (F H : Hp) (acc : D) : Prop where
  s : Step B [] F1 H1 F H
  own : Own K F H 1 (.ref Da) acc [Da]
  FD : F Da = none
theorem DcW.step {Da : Addr} {acc : D} (hB : Da ∉ B) (w : DcW K B F1 H1 Da F H acc) (s : Step B [] F H F' H') : DcW K B F1 H1 Da F' H' acc := by
  obtain ⟨o, e, mu⟩ := w.own.there Da (by simp)
  refine ⟨w.s.trans s fun a h => (by cases h), Own.mono s.fs (fun a ha o e => s.same a o (by rw [List.mem_singleton.mp ha]; exact hB) e) w.own, s.out e mu hB w.FD fun z => (by cases z)⟩
theorem DcW.unlockd {Da a : Addr} {od : Obj} {u : HO} {acc : D} (h : H1 a = some u) (hd : isDct u) (hB : a ∉ B) (hD : H1 Da = none) (w : DcW K B F1 (upd H1 a (.frz od u)) Da F H acc) : DcW K B F1 H1 Da F (upd H a u) acc := by
  have hne : Da ≠ a := fun z => by rw [z, h] at hD; cases hD
  exact ⟨w.s.unlockd h hd hB, w.own.upd fun z => hne (List.mem_singleton.mp z).symm, w.FD⟩
theorem DcW.post {R : D → Prop} {Q : VK} {Da : Addr} {acc : D} (hD : H1 Da = none) (hB : Da ∉ B) (w : DcW K B F1 H1 Da F H acc) (hR : R acc) (k : Post K B A F1 H1 (.own 1) R Q) : Q (.ref Da) H :=
  k F H _ acc [Da] (w.s.weak fun a h => (by cases h)) w.own (fun a ha => by rw [List.mem_singleton.mp ha]; exact ⟨.inr hD, w.FD, hB⟩) (by simp) hR
theorem dc_core' {X : Cx} {bk : Bool} {t : D → Env → Option Env} {fc : FT} {fk fv : FE} {g : TG} {J : It} {xs : List D} {R : D → Prop} {Q : VK} {Z : Hp} {Da : Addr} {vs : List Nat} {ρw : Env}
    (kg : ∀ (B : List Addr) (F H : Hp) (σ : L2.St) (ρ ρ' : Env) (fp : List Addr) (v : V) (d : D), StOk X.K B [] noH noH F H (L2.wipe σ vs) ρ fp → GK.R X.K F v d → t d ρ = some ρ' →
      ∀ Q : L2.St → Hp → Prop, (∀ σ' fp', StOk X.K B [] noH noH F H σ' ρ' fp' → L2.wipe σ' vs = L2.wipe σ vs → Q σ' H) → g v (L2.wipe σ vs) H Q)
    (S : StOk X.K B [] noH noH F1 H1 (L2.wipe σ vs) ρw fp) (it : ItD X.K B Z F1 J xs) (hZ : ∀ a o, Z a = some o → a ∉ B ∧ H1 a = some o) (hD : H1 Da = none) (hx : compDD t fc fk fv ρw xs (emD bk) R)
    (fin : ∀ F H acc, DcW X.K B F1 H1 Da F H acc → R acc → Q (.ref Da) H) :
    ∃ W : Nat → Nat → Hp → Prop, (∃ m, W 0 m (upd H1 Da (emH bk))) ∧ ∀ i m H, W i m H → (J.stop i H ∧ Q (.ref Da) H) ∨ (J.go i H ∧ ∃ Nx : Hp → Prop, (∀ H', Nx H' → ∃ m', m' < m ∧ W (i + 1) m' H') ∧ ∀ x H', J.yld i H x H' →
      g x (L2.wipe σ vs) H' fun σ2 H2 => L2.wipe σ2 vs = L2.wipe σ vs ∧ tDT X.K B fc σ2 H2 fun b H3 => if b = true then tD X.K B (.own 0) fk σ2 H3 fun y H4 => tD X.K B (.own 0) fv σ2 H4 fun z H5 => ∃ H6, DPut H5 Da y z H6 ∧ Nx H6 else Nx H3) := by
  have hB : Da ∉ B := S.wf.notB hD
  have hF : F1 Da = none := F_none S.wf hD
  have h0 : Own X.K F1 (upd H1 Da (emH bk)) 1 (.ref Da) (emD bk) [Da] := by
    cases bk
    · exact ⟨Da, [], [], rfl, upd_same, rfl, rfl, rfl⟩
    · exact ⟨Da, [], [], rfl, upd_same, rfl, rfl, rfl⟩
  have e0 : erO (emH bk) = emH bk := by cases bk <;> rfl
  refine ⟨fun i m H => ∃ F acc, DcW X.K B F1 H1 Da F H acc ∧ m = xs.length - i ∧ i ≤ xs.length ∧ compDD t fc fk fv ρw (xs.drop i) acc R,
    ⟨xs.length, F1, emD bk, ⟨(Step.refl S.wf).mutNew hD hF hB e0, h0, hF⟩, rfl, Nat.zero_le _, hx⟩, ?_⟩
  rintro i m H ⟨F, acc, w, rfl, hi, hr⟩
  obtain ⟨k1, k2⟩ := it i F H w.s.wf (fun a o e => w.s.same a o (hZ a o e).1 (hZ a o e).2) w.s.fs
  by_cases hlt : i < xs.length
  · refine .inr ⟨(k1 hlt).1, fun H' => ∃ F acc, DcW X.K B F1 H1 Da F H' acc ∧ compDD t fc fk fv ρw (xs.drop (i + 1)) acc R, fun H' ⟨F, acc, w, h⟩ => ⟨xs.length - (i + 1), by omega, F, acc, w, rfl, hlt, h⟩, fun x H' y => ?_⟩
    obtain ⟨F2, d, ed, s2, r2⟩ := (k1 hlt).2 x H' y
    have w2 := w.step hB s2
    rw [List.drop_eq_getElem_cons hlt] at hr
    have ed' : xs[i] = d := Option.some.inj ((List.getElem?_eq_getElem hlt).symm.trans ed)
    rw [ed'] at hr
    obtain ⟨ρ', et, hb'⟩ := hr
    refine kg B F2 H' σ ρw ρ' fp x d (S.step w2.s fun a h => (by cases h)) r2 et _ fun σ2 fp2 S3 hw => ⟨hw, ?_⟩
    refine ⟨F2, ρ', fp2, _, S3, hb', fun F3 H3 b s3 hb => ?_⟩
    have w3 := w2.step hB s3
    cases b with
    | false =>
      dsimp only at hb ⊢
      rw [if_neg Bool.false_ne_true] at hb ⊢
      exact ⟨F3, acc, w3, hb⟩
    | true =>
      dsimp only at hb ⊢
      rw [if_pos rfl] at hb ⊢
      have S4 := S3.step s3 (fun a h => by cases h)
      refine ⟨F3, ρ', fp2, _, S4, hb, fun F4 H4 yk dk fy s4 hy oy ny hk => ?_⟩
      refine ⟨F4, ρ', fp2, _, S4.step s4 (fun a h => by cases h), hk, fun F5 H5 yv dv fv' s5 hv ov nv ⟨acc', ea, hk2⟩ => ?_⟩
      have w5 := (w3.step hB s4).step hB s5
      obtain ⟨u, dp, eu, ow⟩ := dput_ok w5.s.wf w5.own (hy.1.mono s5.fs) hv.1 ea
      exact ⟨_, dp, F5, acc', ⟨w5.s.mutNew hD w5.FD hB eu, ow, w5.FD⟩, hk2⟩
  · have e : i = xs.length := by omega
    subst e
    rw [List.drop_length] at hr
    exact .inl ⟨k2 (Nat.le_refl _), fin F H acc w hr⟩
end
def gCompD (fi : FI) (bk : Bool) (t : D → Env → Option Env) (fc : FT) (fk fv : FE) (vs : List Nat) : FE := fun ρ R => fi ρ fun xs => compDD t fc fk fv (wipeE ρ vs) xs (emD bk) R
section
variable {X : Cx} {kx vx tg iter : Expr} {ifs : List Expr} {scope : Scope} {own : List (Str × Nat)} {pos : Pos} {f fk fv : FE} {fi : FI} {fc : FT} {t : D → Env → Option Env}
theorem de_dc (bk : Bool) (hu : X.A.units + 1 < cLine) (hc : X.calm = true) (hN : X.N.Nodup) (hi : DI X B tg iter fi) (ok : BlkOk X.N X.env.scope scope own) (hg : DGc X tg (own.map (·.2)) t) (hol : ∀ v ∈ own.map (·.2), ∃ x, X.N[v]? = some x ∧ ∀ C cl, (compEnvC scope cl C X.env).scope.names.lookup x = some .local)
    (ht : ∀ (s : Shared) (H : Hp) (C : Addr) (cl : List (Str × Addr)) (fp : List Addr), DTs (X.blk s H scope (compEnvC scope cl C X.env) fp) B ifs fc)
    (hk : ∀ (s : Shared) (H : Hp) (C : Addr) (cl : List (Str × Addr)) (fp : List Addr), DE (X.blk s H scope (compEnvC scope cl C X.env) fp) B kx (.own 0) fk)
    (hv : ∀ (s : Shared) (H : Hp) (C : Addr) (cl : List (Str × Addr)) (fp : List Addr), DE (X.blk s H scope (compEnvC scope cl C X.env) fp) B vx (.own 0) fv) (hs : ∀ x, foldedSetIterable iter X.env x = pure x := by intro _; rfl) :
    DE X B (.DictComp kx vx [⟨tg, iter, ifs, 0⟩] scope pos) (.own 1) (gCompD fi bk t fc fk fv (own.map (·.2))) := by
  obtain ⟨g, pg, kg⟩ := hg.ok
  refine PE.imp (pe_dcB (bk := bk) (tt := tDT X.K B fc) (tk := tD X.K B (.own 0) fk) (tv := tD X.K B (.own 0) fv) hu hc hN hi ok (fun s H C cl fp => pg s H scope C cl fp hol) ht hk hv hs) fun σ H Q ⟨F, ρ, fp, R, S, hf, k⟩ => ⟨F, ρ, fp, _, S, hf, fun J F1 H1 xs s1 it hx Da hD => ?_⟩
  have S1 := S.step s1 fun a h => (by cases h)
  obtain ⟨fpw, Sw, _⟩ := S1.wipe (own.map (·.2))
  exact dc_core' kg Sw it (fun a o e => prot_sub e) hD hx fun F H acc w hR => w.post hD (S1.wf.notB hD) hR (k.after s1 (A1 := []) fun a h => (by cases h))
theorem de_dcK (bk : Bool) (hu : X.A.units + 1 < cLine) (hc : X.calm = true) (hN : X.N.Nodup) (hi : DE X B iter (.own 0) f) (ok : BlkOk X.N X.env.scope scope own) (hg : DGc X tg (own.map (·.2)) t) (hol : ∀ v ∈ own.map (·.2), ∃ x, X.N[v]? = some x ∧ ∀ C cl, (compEnvC scope cl C X.env).scope.names.lookup x = some .local)
    (ht : ∀ (s : Shared) (H : Hp) (C : Addr) (cl : List (Str × Addr)) (fp : List Addr), DTs (X.blk s H scope (compEnvC scope cl C X.env) fp) B ifs fc)
    (hk : ∀ (s : Shared) (H : Hp) (C : Addr) (cl : List (Str × Addr)) (fp : List Addr), DE (X.blk s H scope (compEnvC scope cl C X.env) fp) B kx (.own 0) fk)
    (hv : ∀ (s : Shared) (H : Hp) (C : Addr) (cl : List (Str × Addr)) (fp : List Addr), DE (X.blk s H scope (compEnvC scope cl C X.env) fp) B vx (.own 0) fv) (hs : ∀ x, foldedSetIterable iter X.env x = pure x := by intro _; rfl) :
    DE X B (.DictComp kx vx [⟨tg, iter, ifs, 0⟩] scope pos) (.own 1) (gCompD (fun ρ R => f ρ (ksOf R)) bk t fc fk fv (own.map (·.2))) := by
  obtain ⟨g, pg, kg⟩ := hg.ok
  refine PE.imp (pe_unl (pe_dcB (bk := bk) (tt := tDT X.K B fc) (tk := tD X.K B (.own 0) fk) (tv := tD X.K B (.own 0) fv) hu hc hN (pi_keys (pe_lockA hi)) ok (fun s H C cl fp => pg s H scope C cl fp hol) ht hk hv hs)) fun σ H Q ⟨F, ρ, fp, R, S, hf, k⟩ =>
    keys_ti (Rx := fun xs => compDD t fc fk fv (wipeE ρ (own.map fun e : Str × Nat => e.2)) xs (emD bk) R) S hf fun J F1 H1 H1' xs s1 hx S1 lk hno it Da hD => ?_
  obtain ⟨fpw, Sw, _⟩ := S1.wipe (own.map (·.2))
  refine dc_core' kg Sw it (fun a o e => prot_sub e) hD hx fun F H acc w hR => ?_
  have hD1 : H1 Da = none := (hno Da).mp hD
  have hB : Da ∉ B := S1.wf.notB hD
  refine unl_fin lk w.s (fun e => ?_) fun a od u h1 h2 h3 e => ?_
  · subst e
    exact w.post hD1 hB hR (k.after s1 (A1 := []) fun a h => (by cases h))
  · subst e
    exact (w.unlockd h1 h2 h3 hD1).post hD1 hB hR (k.after s1 (A1 := []) fun a h => (by cases h))
theorem ds_setDc (i : Nat) (bk : Bool) {pin : Nat} {mr : Mode} {y : Str} {py spos : Pos} (hu : X.A.units + 1 < cLine) (hc : X.calm = true) (hN : X.N.Nodup) (hy : X.N[i]? = some y) (hyl : X.env.scope.names.lookup y = some .local) (hp : pin ≤ i)
    (hsw : swapsWith (.DictComp kx vx [⟨tg, iter, ifs, 0⟩] scope pos) (some (.Name y py)) spos.line X.env = pure true) (hi : DI X B tg iter fi) (ok : BlkOk X.N X.env.scope scope own) (hg : DGc X tg (own.map (·.2)) t) (hol : ∀ v ∈ own.map (·.2), ∃ x, X.N[v]? = some x ∧ ∀ C cl, (compEnvC scope cl C X.env).scope.names.lookup x = some .local)
    (ht : ∀ (s : Shared) (H : Hp) (C : Addr) (cl : List (Str × Addr)) (fp : List Addr), DTs (X.blk s H scope (compEnvC scope cl C X.env) fp) B ifs fc)
    (hk : ∀ (s : Shared) (H : Hp) (C : Addr) (cl : List (Str × Addr)) (fp : List Addr), DE (X.blk s H scope (compEnvC scope cl C X.env) fp) B kx (.own 0) fk)
    (hv : ∀ (s : Shared) (H : Hp) (C : Addr) (cl : List (Str × Addr)) (fp : List Addr), DE (X.blk s H scope (compEnvC scope cl C X.env) fp) B vx (.own 0) fv) (hs : ∀ x, foldedSetIterable iter X.env x = pure x := by intro _; rfl) :
    DS X B (.Assign [.Name y py] (.DictComp kx vx [⟨tg, iter, ifs, 0⟩] scope pos) spos) pin mr (fun E ρ => gCompD fi bk t fc fk fv (own.map (·.2)) ρ fun d => i < ρ.length ∧ E.nx (ρ.set i (some (1, d)))) := by
  obtain ⟨g, pg, kg⟩ := hg.ok
  refine PS.imp (ps_setDcB (bk := bk) (tt := tDT X.K B fc) (tk := tD X.K B (.own 0) fk) (tv := tD X.K B (.own 0) fv) hu hc hN hy hyl hsw hi ok (fun s H C cl fp => pg s H scope C cl fp hol) ht hk hv hs) fun Dn σ H ⟨Pn, Z0, F0, F, ρ, fp, E, hpl, S, hf, L⟩ => ?_
  obtain ⟨F, ρ, fp, R, S, hf, k⟩ := tDM_of (pin := pin) (K := X.K) (Q := fun x H1 => Dn.nx (σ.set i (some x)) H1) (m := .own 1) (f := gCompD fi bk t fc fk fv (own.map (·.2))) ⟨Pn, Z0, F0, F, ρ, fp, fun d ρ' => i < ρ'.length ∧ E.nx (ρ'.set i (some (1, d))), hpl, S, hf, fun F' H' ρ' fp' v d f' S' hv ap hR => by
    obtain ⟨fp2, S2⟩ := S'.set hv ap hR.1 (by omega)
    exact L.nx F' H' _ _ fp2 S2 hR.2⟩
  refine ⟨F, ρ, fp, _, S, hf, fun J F1 H1 xs s1 it hx Da hD => ?_⟩
  have S1 := S.step s1 fun a h => (by cases h)
  obtain ⟨fpw, Sw, _⟩ := S1.wipe (own.map (·.2))
  exact dc_core' (Q := fun x H1 => Dn.nx (σ.set i (some x)) H1) kg Sw it (fun a o e => prot_sub e) hD hx fun F H acc w hR => w.post hD (S1.wf.notB hD) hR (k.after s1 (A1 := []) fun a h => (by cases h))
theorem ds_setDcK (i : Nat) (bk : Bool) {pin : Nat} {mr : Mode} {y : Str} {py spos : Pos} (hu : X.A.units + 1 < cLine) (hc : X.calm = true) (hN : X.N.Nodup) (hy : X.N[i]? = some y) (hyl : X.env.scope.names.lookup y = some .local) (hp : pin ≤ i)
    (hsw : swapsWith (.DictComp kx vx [⟨tg, iter, ifs, 0⟩] scope pos) (some (.Name y py)) spos.line X.env = pure true) (hi : DE X B iter (.own 0) f) (ok : BlkOk X.N X.env.scope scope own) (hg : DGc X tg (own.map (·.2)) t) (hol : ∀ v ∈ own.map (·.2), ∃ x, X.N[v]? = some x ∧ ∀ C cl, (compEnvC scope cl C X.env).scope.names.lookup x = some .local)
    (ht : ∀ (s : Shared) (H : Hp) (C : Addr) (cl : List (Str × Addr)) (fp : List Addr), DTs (X.blk s H scope (compEnvC scope cl C X.env) fp) B ifs fc)
    (hk : ∀ (s : Shared) (H : Hp) (C : Addr) (cl : List (Str × Addr)) (fp : List Addr), DE (X.blk s H scope (compEnvC scope cl C X.env) fp) B kx (.own 0) fk)
    (hv : ∀ (s : Shared) (H : Hp) (C : Addr) (cl : List (Str × Addr)) (fp : List Addr), DE (X.blk s H scope (compEnvC scope cl C X.env) fp) B vx (.own 0) fv) (hs : ∀ x, foldedSetIterable iter X.env x = pure x := by intro _; rfl) :
    DS X B (.Assign [.Name y py] (.DictComp kx vx [⟨tg, iter, ifs, 0⟩] scope pos) spos) pin mr (fun E ρ => gCompD (fun ρ R => f ρ (ksOf R)) bk t fc fk fv (own.map (·.2)) ρ fun d => i < ρ.length ∧ E.nx (ρ.set i (some (1, d)))) := by
  obtain ⟨g, pg, kg⟩ := hg.ok
  refine PS.imp (ps_unl (ps_setDcB (bk := bk) (tt := tDT X.K B fc) (tk := tD X.K B (.own 0) fk) (tv := tD X.K B (.own 0) fv) hu hc hN hy hyl hsw (pi_keys (pe_lockA hi)) ok (fun s H C cl fp => pg s H scope C cl fp hol) ht hk hv hs)) fun Dn σ H ⟨Pn, Z0, F0, F, ρ, fp, E, hpl, S, hf, L⟩ => ?_
  obtain ⟨F, ρ, fp, R, S, hf, k⟩ := tDM_of (pin := pin) (K := X.K) (Q := fun x H1 => Dn.nx (σ.set i (some x)) H1) (m := .own 1) (f := gCompD (fun ρ R => f ρ (ksOf R)) bk t fc fk fv (own.map (·.2))) ⟨Pn, Z0, F0, F, ρ, fp, fun d ρ' => i < ρ'.length ∧ E.nx (ρ'.set i (some (1, d))), hpl, S, hf, fun F' H' ρ' fp' v d f' S' hv ap hR => by
    obtain ⟨fp2, S2⟩ := S'.set hv ap hR.1 (by omega)
    exact L.nx F' H' _ _ fp2 S2 hR.2⟩
  unfold tAsg tDcB
  dsimp only
  refine keys_ti (Rx := fun xs => compDD t fc fk fv (wipeE ρ (own.map fun e : Str × Nat => e.2)) xs (emD bk) R) S hf fun J F1 H1 H1' xs s1 hx S1 lk hno it Da hD => ?_
  obtain ⟨fpw, Sw, _⟩ := S1.wipe (own.map (·.2))
  refine dc_core' (Q := fun x H1 => unlS X Dn.nx (σ.set i (some x)) H1) kg Sw it (fun a o e => prot_sub e) hD hx fun F H acc w hR => ?_
  have hD1 : H1 Da = none := (hno Da).mp hD
  have hB : Da ∉ B := S1.wf.notB hD
  refine unl_fin (Q := fun x H1 => Dn.nx (σ.set i (some x)) H1) (v := .ref Da) lk w.s (fun e => ?_) fun a od u h1 h2 h3 e => ?_
  · subst e
    exact w.post hD1 hB hR (k.after s1 (A1 := []) fun a h => (by cases h))
  · subst e
    exact (w.unlockd h1 h2 h3 hD1).post hD1 hB hR (k.after s1 (A1 := []) fun a h => (by cases h))
end
end GK

namespace GK
open PySem PySem.Spec PyProof.Rows L2

/-! ### places inside what a name owns: a[i], a.f, a[k][j] .. -/
inductive PSt where
  | fld (f : Str) | ix (k : Nat) | key (k : Key) | keyT (k : List Key)
/-- the first entry of a key is replaced -/
def setE {κ : Type} (p : κ → Bool) (x : D) : List (κ × D) → List (κ × D)
  | [] => []
  | e :: r => if p e.1 = true then (e.1, x) :: r else e :: setE p x r
def subD : D → PSt → Option D
  | .obj _ es, .fld f => es.lookup f
  | .lst ds, .ix k => ds[k]?
  | .dK es, .key k => getD' es k
  | .dT es, .keyT k => getD' es k
  | _, _ => none
def subP : D → List PSt → Option D
  | d, [] => some d
  | d, s :: p => (subD d s).bind fun e => subP e p
def setD : D → PSt → D → D
  | .obj C es, .fld f, x => .obj C (setE (fun g => f == g) x es)
  | .lst ds, .ix k, x => .lst (ds.set k x)
  | .dK es, .key k, x => .dK (setE (fun g => decide (g = k)) x es)
  | .dT es, .keyT k, x => .dT (setE (fun g => decide (g = k)) x es)
  | d, _, _ => d
def setP : D → List PSt → D → D
  | _, [], x => x
  | d, s :: p, x => match subD d s with
    | some e => setD d s (setP e p x)
    | none => d
def AtV (B : List Addr) (H : Hp) (v : V) : PSt → V → Prop
  | .fld f, w => ∃ a C dx fs, v = .ref a ∧ a ∉ B ∧ H a = some (.ins C dx fs) ∧ fs.lookup f = some w
  | .ix k, w => ∃ a vs, v = .ref a ∧ a ∉ B ∧ H a = some (.lst vs) ∧ vs[k]? = some w
  | .key k, w => ∃ a kvs, v = .ref a ∧ a ∉ B ∧ H a = some (.dK kvs) ∧ valV kvs k = some w
  | .keyT k, w => ∃ a kvs, v = .ref a ∧ a ∉ B ∧ H a = some (.dT kvs) ∧ valV kvs k = some w
def PathV (B : List Addr) (H : Hp) : V → List PSt → V → Prop
  | v, [], w => w = v
  | v, s :: p, w => ∃ x, AtV B H v s x ∧ PathV B H x p w
section
variable {K : PySem.W.Frag} {B A fp : List Addr} {F F1 F' H H1 H' : Hp} {σ : L2.St} {ρ : Env} {n m : Nat}
theorem AtV.det {v w w' : V} : ∀ {s : PSt}, AtV B H v s w → AtV B H v s w' → w = w'
  | .fld f, ⟨a, C, dx, fs, e, _, h, l⟩, ⟨a', C', dx', fs', e', _, h', l'⟩ => by
    subst e; cases e'; rw [h] at h'; cases h'; rw [l] at l'; exact Option.some.inj l'
  | .ix k, ⟨a, fs, e, _, h, l⟩, ⟨a', fs', e', _, h', l'⟩ => by
    subst e; cases e'; rw [h] at h'; cases h'; rw [l] at l'; exact Option.some.inj l'
  | .key k, ⟨a, fs, e, _, h, l⟩, ⟨a', fs', e', _, h', l'⟩ => by
    subst e; cases e'; rw [h] at h'; cases h'; rw [l] at l'; exact Option.some.inj l'
  | .keyT k, ⟨a, fs, e, _, h, l⟩, ⟨a', fs', e', _, h', l'⟩ => by
    subst e; cases e'; rw [h] at h'; cases h'; rw [l] at l'; exact Option.some.inj l'
theorem PathV.det : ∀ {p : List PSt} {v w w' : V}, PathV B H v p w → PathV B H v p w' → w = w'
  | [], _, _, _, h, h' => h.trans h'.symm
  | s :: p, _, _, _, ⟨x, h1, h2⟩, ⟨x', h1', h2'⟩ => by
    have := h1.det h1'
    subst this
    exact h2.det h2'
theorem AtV.same (s : ∀ a o, a ∉ B → H a = some o → H' a = some o) {v w : V} : ∀ {q : PSt}, AtV B H v q w → AtV B H' v q w
  | .fld f, ⟨a, C, dx, fs, e, hb, h, l⟩ => ⟨a, C, dx, fs, e, hb, s a _ hb h, l⟩
  | .ix k, ⟨a, fs, e, hb, h, l⟩ => ⟨a, fs, e, hb, s a _ hb h, l⟩
  | .key k, ⟨a, fs, e, hb, h, l⟩ => ⟨a, fs, e, hb, s a _ hb h, l⟩
  | .keyT k, ⟨a, fs, e, hb, h, l⟩ => ⟨a, fs, e, hb, s a _ hb h, l⟩
theorem PathV.same (s : ∀ a o, a ∉ B → H a = some o → H' a = some o) : ∀ {p : List PSt} {v w : V}, PathV B H v p w → PathV B H' v p w
  | [], _, _, h => h
  | q :: p, _, _, ⟨x, h1, h2⟩ => ⟨x, h1.same s, PathV.same s h2⟩
theorem PathV.app : ∀ {p : List PSt} {v x w : V} {q : PSt}, PathV B H v p x → AtV B H x q w → PathV B H v (p ++ [q]) w
  | [], _, _, _, _, h, k => by
    have h : _ = _ := h
    subst h
    exact ⟨_, k, rfl⟩
  | s :: p, _, _, _, _, ⟨y, h1, h2⟩, k => ⟨y, h1, PathV.app h2 k⟩
theorem subP_app : ∀ {p : List PSt} {d : D} {q : PSt}, subP d (p ++ [q]) = (subP d p).bind fun e => subD e q
  | [], d, q => by
    show (subD d q).bind (fun e => some e) = subD d q
    cases subD d q <;> rfl
  | s :: p, d, q => by
    show (subD d s).bind (fun e => subP e (p ++ [q])) = ((subD d s).bind fun e => subP e p).bind fun e => subD e q
    cases subD d s with
    | none => rfl
    | some e => exact subP_app
/-- the item at a place -/
theorem OwnL.at_ {P : V → D → List Addr → Prop} : ∀ {vs : List V} {ds : List D} {fp : List Addr} {i : Nat} {e : D}, OwnL P vs ds fp → fp.Nodup → ds[i]? = some e →
    ∃ v f, vs[i]? = some v ∧ P v e f ∧ (∀ a ∈ f, a ∈ fp) ∧ f.Nodup ∧ ∀ (P' : V → D → List Addr → Prop) (e' : D) (g : List Addr), (∀ w d k, (∀ b ∈ k, b ∈ fp ∧ b ∉ f) → P w d k → P' w d k) → P' v e' g → (∀ b ∈ g, b ∈ f ∨ b ∉ fp) → g.Nodup →
      ∃ fp', OwnL P' vs (ds.set i e') fp' ∧ fp'.Nodup ∧ ∀ b ∈ fp', b ∈ fp ∨ b ∈ g
  | [], [], _, i, e, _, _, h => by simp at h
  | v :: vs, d :: ds, fp, 0, e, ⟨f1, f2, ef, h, t⟩, nd, q => by
    have q' : d = e := Option.some.inj q
    subst q'
    subst ef
    obtain ⟨n1, n2, n3⟩ := List.nodup_append.mp nd
    refine ⟨v, f1, rfl, h, fun a ha => List.mem_append_left _ ha, n1, fun P' e' g hP hg hs hn => ⟨g ++ f2, ⟨g, f2, rfl, hg, t.imp fun w d k hk => hP w d k fun b hb => ⟨List.mem_append_right _ (hk b hb), fun z => n3 b z b (hk b hb) rfl⟩⟩, List.nodup_append.mpr ⟨hn, n2, fun a ha b hb e => ?_⟩, fun b hb => ?_⟩⟩
    · subst e
      rcases hs a ha with z | z
      · exact n3 a z a hb rfl
      · exact z (List.mem_append_right _ hb)
    · rcases List.mem_append.mp hb with z | z
      · exact .inr z
      · exact .inl (List.mem_append_right _ z)
  | v :: vs, d :: ds, fp, i + 1, e, ⟨f1, f2, ef, h, t⟩, nd, q => by
    subst ef
    obtain ⟨n1, n2, n3⟩ := List.nodup_append.mp nd
    obtain ⟨w, f, e1, e2, e3, e4, k⟩ := OwnL.at_ (i := i) (e := e) t n2 q
    refine ⟨w, f, e1, e2, fun a ha => List.mem_append_right _ (e3 a ha), e4, fun P' e' g hP hg hs hn => ?_⟩
    obtain ⟨fp', o, nd', sub⟩ := k P' e' g (fun w d l hl => hP w d l fun b hb => ⟨List.mem_append_right _ (hl b hb).1, (hl b hb).2⟩) hg (fun b hb => (hs b hb).imp id fun z y => z (List.mem_append_right _ y)) hn
    refine ⟨f1 ++ fp', ⟨f1, fp', rfl, hP v d f1 (fun b hb => ⟨List.mem_append_left _ hb, fun z => n3 b hb b (e3 b z) rfl⟩) h, o⟩, List.nodup_append.mpr ⟨n1, nd', fun a ha b hb e => ?_⟩, fun b hb => ?_⟩
    · subst e
      rcases sub a hb with z | z
      · exact n3 a ha a z rfl
      · rcases hs a z with y | y
        · exact n3 a ha a (e3 a y) rfl
        · exact y (List.mem_append_left _ ha)
    · rcases List.mem_append.mp hb with z | z
      · exact .inl (List.mem_append_left _ z)
      · exact (sub b z).imp (fun y => List.mem_append_right _ y) id
theorem setE_at {κ : Type} {p : κ → Bool} {x : D} : ∀ {es : List (κ × D)} {i : Nat} {k : κ}, (es.map (·.1))[i]? = some k → p k = true → (∀ j k', j < i → (es.map (·.1))[j]? = some k' → p k' = false) → (setE p x es).map (·.2) = (es.map (·.2)).set i x ∧ (setE p x es).map (·.1) = es.map (·.1)
  | [], i, k, e, _, _ => by simp at e
  | q :: r, 0, k, e, hp, _ => by
    have e' : q.1 = k := Option.some.inj e
    subst e'
    unfold setE
    rw [if_pos hp]
    exact ⟨rfl, rfl⟩
  | q :: r, i + 1, k, e, hp, hn => by
    have h0 : p q.1 = false := hn 0 q.1 (Nat.succ_pos _) rfl
    obtain ⟨i1, i2⟩ := setE_at (x := x) (es := r) (i := i) (k := k) e hp fun j k' hj hk => hn (j + 1) k' (Nat.succ_lt_succ hj) hk
    unfold setE
    rw [if_neg (by rw [h0]; exact Bool.false_ne_true)]
    exact ⟨congrArg (List.cons q.2) i1, congrArg (List.cons q.1) i2⟩
theorem lookup_at {m : Str} {d : D} : ∀ {fs : List (Str × V)} {es : List (Str × D)}, fs.map (·.1) = es.map (·.1) → es.lookup m = some d → ∃ (i : Nat) (k : Str), (es.map (·.1))[i]? = some k ∧ (m == k) = true ∧ (es.map (·.2))[i]? = some d ∧ (∀ v, (fs.map (·.2))[i]? = some v → fs.lookup m = some v) ∧ ∀ j k', j < i → (es.map (·.1))[j]? = some k' → (m == k') = false
  | [], [], _, h => by cases h
  | p :: r, q :: s, hk, h => by
    rw [List.map_cons, List.map_cons] at hk
    injection hk with h1 h2
    obtain ⟨pk, pv⟩ := p
    obtain ⟨qk, qv⟩ := q
    dsimp only at h1
    subst h1
    rw [List.lookup_cons] at h
    cases hb : m == pk with
    | true =>
      rw [hb] at h
      exact ⟨0, pk, rfl, hb, by simpa using h, fun v e => by rw [List.lookup_cons, hb]; simpa using e, fun j k' hj => absurd hj (Nat.not_lt_zero _)⟩
    | false =>
      rw [hb] at h
      obtain ⟨i, k, e1, e2, e3, e4, e5⟩ := lookup_at h2 h
      refine ⟨i + 1, k, by simpa using e1, e2, by simpa using e3, fun v e => by rw [List.lookup_cons, hb]; exact e4 v (by simpa using e), fun j k' hj e => ?_⟩
      cases j with
      | zero =>
        have e' : pk = k' := by simpa using e
        rw [← e']; exact hb
      | succ j => exact e5 j k' (Nat.lt_of_succ_lt_succ hj) (by simpa using e)
  | [], _ :: _, h, _ => by cases h
  | _ :: _, [], h, _ => by cases h
theorem get_at {κ : Type} [DecidableEq κ] {m : κ} {d : D} : ∀ {fs : List (κ × V)} {es : List (κ × D)}, fs.map (·.1) = es.map (·.1) → getD' es m = some d → ∃ (i : Nat) (k : κ), (es.map (·.1))[i]? = some k ∧ decide (k = m) = true ∧ (es.map (·.2))[i]? = some d ∧ (∀ v, (fs.map (·.2))[i]? = some v → valV fs m = some v) ∧ ∀ j k', j < i → (es.map (·.1))[j]? = some k' → decide (k' = m) = false
  | [], [], _, h => by cases h
  | p :: r, q :: s, hk, h => by
    rw [List.map_cons, List.map_cons] at hk
    injection hk with h1 h2
    by_cases c : q.1 = m
    · have hd : q.2 = d := by
        have : getD' (q :: s) m = some q.2 := by simp [getD', List.find?_cons, c]
        rw [this] at h; exact Option.some.inj h
      refine ⟨0, q.1, rfl, decide_eq_true c, by rw [← hd]; rfl, fun v e => ?_, fun j k' hj => absurd hj (Nat.not_lt_zero _)⟩
      have e' : p.2 = v := by simpa using e
      rw [← e']; exact valV_pos (h1.trans c)
    · have g : getD' (q :: s) m = getD' s m := by simp [getD', List.find?_cons, c]
      rw [g] at h
      obtain ⟨i, k, e1, e2, e3, e4, e5⟩ := get_at h2 h
      refine ⟨i + 1, k, by simpa using e1, e2, by simpa using e3, fun v e => by rw [valV_neg (fun z => c (h1.symm.trans z))]; exact e4 v (by simpa using e), fun j k' hj e => ?_⟩
      cases j with
      | zero =>
        have e' : q.1 = k' := by simpa using e
        rw [← e']; exact decide_eq_false c
      | succ j => exact e5 j k' (Nat.lt_of_succ_lt_succ hj) (by simpa using e)
  | [], _ :: _, h, _ => by cases h
  | _ :: _, [], h, _ => by cases h
/-- one step down -/
theorem Own.sub {v : V} {d e : D} {s : PSt} (o : Own K F H (n + 1) v d fp) (nd : fp.Nodup) (hB : ∀ a ∈ fp, a ∉ B) (h : subD d s = some e) :
    ∃ v' f', AtV B H v s v' ∧ Own K F H n v' e f' ∧ (∀ a ∈ f', a ∈ fp) ∧ f'.Nodup ∧ ∀ (H' : Hp) (e' : D) (g : List Addr), (∀ b ∈ fp, b ∉ f' → ∀ o, H b = some o → H' b = some o) → Own K F H' n v' e' g → (∀ b ∈ g, b ∈ f' ∨ b ∉ fp) → g.Nodup →
      ∃ fp', Own K F H' (n + 1) v (setD d s e') fp' ∧ fp'.Nodup ∧ ∀ b ∈ fp', b ∈ fp ∨ b ∈ g := by
  have fin : ∀ {a : Addr} {f f' g : List Addr} {vs : List V} {ds ds' : List D} {H' : Hp}, (a :: f).Nodup → (∀ b ∈ g, b ∈ f' ∨ b ∉ (a :: f)) → (∀ b ∈ f', b ∈ f) → (∀ b ∈ g, b ≠ a) := fun {a f f' g vs ds ds' H'} nd hs hf b hb z => by
    subst z
    rcases hs b hb with y | y
    · exact (List.nodup_cons.mp nd).1 (hf b y)
    · exact y List.mem_cons_self
  cases d <;> cases s <;> try (cases h; done)
  · -- list
    rename_i ds k
    obtain ⟨a, vs, f, rfl, h1, rfl, t⟩ := o
    obtain ⟨n1, n2⟩ := List.nodup_cons.mp nd
    obtain ⟨w, f', e1, e2, e3, e4, kk⟩ := t.at_ n2 h
    refine ⟨w, f', ⟨a, vs, rfl, hB a List.mem_cons_self, h1, e1⟩, e2, fun b hb => List.mem_cons_of_mem _ (e3 b hb), e4, fun H' e' g hH ho hs hn => ?_⟩
    have hga := fin (vs := []) (ds := []) (ds' := []) (H' := H') nd hs e3
    obtain ⟨fp', o', nd', sub⟩ := kk (Own K F H' n) e' g (fun w d l hl q => Own.mono (fun _ _ h => h) (fun b hb o e => hH b (List.mem_cons_of_mem _ (hl b hb).1) (hl b hb).2 o e) q) ho (fun b hb => (hs b hb).imp id fun z y => z (List.mem_cons_of_mem _ y)) hn
    refine ⟨a :: fp', ⟨a, vs, fp', rfl, hH a List.mem_cons_self (fun z => n1 (e3 a z)) _ h1, rfl, o'⟩, List.nodup_cons.mpr ⟨fun z => (sub a z).elim n1 fun y => hga a y rfl, nd'⟩, fun b hb => ?_⟩
    rcases List.mem_cons.mp hb with z | z
    · exact .inl (by rw [z]; exact List.mem_cons_self)
    · exact (sub b z).imp (fun y => List.mem_cons_of_mem _ y) id
  · -- dict
    rename_i es k
    obtain ⟨a, kvs, f, rfl, h1, rfl, hk, t⟩ := o
    obtain ⟨n1, n2⟩ := List.nodup_cons.mp nd
    obtain ⟨i, kk0, g1, g2, g3, g4, g5⟩ := get_at hk h
    obtain ⟨w, f', e1, e2, e3, e4, kk⟩ := t.at_ n2 g3
    refine ⟨w, f', ⟨a, kvs, rfl, hB a List.mem_cons_self, h1, g4 w e1⟩, e2, fun b hb => List.mem_cons_of_mem _ (e3 b hb), e4, fun H' e' g hH ho hs hn => ?_⟩
    have hga := fin (vs := []) (ds := []) (ds' := []) (H' := H') nd hs e3
    obtain ⟨fp', o', nd', sub⟩ := kk (Own K F H' n) e' g (fun w d l hl q => Own.mono (fun _ _ h => h) (fun b hb o e => hH b (List.mem_cons_of_mem _ (hl b hb).1) (hl b hb).2 o e) q) ho (fun b hb => (hs b hb).imp id fun z y => z (List.mem_cons_of_mem _ y)) hn
    obtain ⟨s1, s2⟩ := setE_at (p := fun g => decide (g = k)) (x := e') g1 g2 g5
    refine ⟨a :: fp', ⟨a, kvs, fp', rfl, hH a List.mem_cons_self (fun z => n1 (e3 a z)) _ h1, rfl, by rw [s2]; exact hk, by rw [s1]; exact o'⟩, List.nodup_cons.mpr ⟨fun z => (sub a z).elim n1 fun y => hga a y rfl, nd'⟩, fun b hb => ?_⟩
    rcases List.mem_cons.mp hb with z | z
    · exact .inl (by rw [z]; exact List.mem_cons_self)
    · exact (sub b z).imp (fun y => List.mem_cons_of_mem _ y) id
  · rename_i es k
    obtain ⟨a, kvs, f, rfl, h1, rfl, hk, t⟩ := o
    obtain ⟨n1, n2⟩ := List.nodup_cons.mp nd
    obtain ⟨i, kk0, g1, g2, g3, g4, g5⟩ := get_at hk h
    obtain ⟨w, f', e1, e2, e3, e4, kk⟩ := t.at_ n2 g3
    refine ⟨w, f', ⟨a, kvs, rfl, hB a List.mem_cons_self, h1, g4 w e1⟩, e2, fun b hb => List.mem_cons_of_mem _ (e3 b hb), e4, fun H' e' g hH ho hs hn => ?_⟩
    have hga := fin (vs := []) (ds := []) (ds' := []) (H' := H') nd hs e3
    obtain ⟨fp', o', nd', sub⟩ := kk (Own K F H' n) e' g (fun w d l hl q => Own.mono (fun _ _ h => h) (fun b hb o e => hH b (List.mem_cons_of_mem _ (hl b hb).1) (hl b hb).2 o e) q) ho (fun b hb => (hs b hb).imp id fun z y => z (List.mem_cons_of_mem _ y)) hn
    obtain ⟨s1, s2⟩ := setE_at (p := fun g => decide (g = k)) (x := e') g1 g2 g5
    refine ⟨a :: fp', ⟨a, kvs, fp', rfl, hH a List.mem_cons_self (fun z => n1 (e3 a z)) _ h1, rfl, by rw [s2]; exact hk, by rw [s1]; exact o'⟩, List.nodup_cons.mpr ⟨fun z => (sub a z).elim n1 fun y => hga a y rfl, nd'⟩, fun b hb => ?_⟩
    rcases List.mem_cons.mp hb with z | z
    · exact .inl (by rw [z]; exact List.mem_cons_self)
    · exact (sub b z).imp (fun y => List.mem_cons_of_mem _ y) id
  · rename_i C es k
    obtain ⟨a, dx, kvs, f, rfl, h1, rfl, hk, t⟩ := o
    obtain ⟨n1, n2⟩ := List.nodup_cons.mp nd
    obtain ⟨i, kk0, g1, g2, g3, g4, g5⟩ := lookup_at hk h
    obtain ⟨w, f', e1, e2, e3, e4, kk⟩ := t.at_ n2 g3
    refine ⟨w, f', ⟨a, C, dx, kvs, rfl, hB a List.mem_cons_self, h1, g4 w e1⟩, e2, fun b hb => List.mem_cons_of_mem _ (e3 b hb), e4, fun H' e' g hH ho hs hn => ?_⟩
    have hga := fin (vs := []) (ds := []) (ds' := []) (H' := H') nd hs e3
    obtain ⟨fp', o', nd', sub⟩ := kk (Own K F H' n) e' g (fun w d l hl q => Own.mono (fun _ _ h => h) (fun b hb o e => hH b (List.mem_cons_of_mem _ (hl b hb).1) (hl b hb).2 o e) q) ho (fun b hb => (hs b hb).imp id fun z y => z (List.mem_cons_of_mem _ y)) hn
    obtain ⟨s1, s2⟩ := setE_at (p := fun g => k == g) (x := e') g1 g2 g5
    refine ⟨a :: fp', ⟨a, dx, kvs, fp', rfl, hH a List.mem_cons_self (fun z => n1 (e3 a z)) _ h1, rfl, by rw [s2]; exact hk, by rw [s1]; exact o'⟩, List.nodup_cons.mpr ⟨fun z => (sub a z).elim n1 fun y => hga a y rfl, nd'⟩, fun b hb => ?_⟩
    rcases List.mem_cons.mp hb with z | z
    · exact .inl (by rw [z]; exact List.mem_cons_self)
    · exact (sub b z).imp (fun y => List.mem_cons_of_mem _ y) id
theorem Own.path : ∀ {p : List PSt} {v : V} {d e : D} {fp : List Addr}, Own K F H (n + p.length) v d fp → fp.Nodup → (∀ a ∈ fp, a ∉ B) → subP d p = some e →
    ∃ v' f', PathV B H v p v' ∧ Own K F H n v' e f' ∧ (∀ a ∈ f', a ∈ fp) ∧ f'.Nodup ∧ ∀ (H' : Hp) (e' : D) (g : List Addr), (∀ b ∈ fp, b ∉ f' → ∀ o, H b = some o → H' b = some o) → Own K F H' n v' e' g → (∀ b ∈ g, b ∈ f' ∨ b ∉ fp) → g.Nodup →
      ∃ fp', Own K F H' (n + p.length) v (setP d p e') fp' ∧ fp'.Nodup ∧ ∀ b ∈ fp', b ∈ fp ∨ b ∈ g
  | [], v, d, e, fp, o, nd, hB, h => by
    cases h
    exact ⟨v, fp, rfl, o, fun _ h => h, nd, fun H' e' g _ ho _ hn => ⟨g, ho, hn, fun b hb => .inr hb⟩⟩
  | s :: p, v, d, e, fp, o, nd, hB, h => by
    have o : Own K F H (n + p.length + 1) v d fp := o
    have h : (subD d s).bind (fun e => subP e p) = some e := h
    cases q : subD d s with
    | none => rw [q] at h; cases h
    | some x =>
      rw [q] at h
      obtain ⟨v1, f1, a1, o1, s1, n1, k1⟩ := o.sub nd hB q
      obtain ⟨v2, f2, a2, o2, s2, n2, k2⟩ := Own.path (p := p) o1 n1 (fun a ha => hB a (s1 a ha)) h
      refine ⟨v2, f2, ⟨v1, a1, a2⟩, o2, fun a ha => s1 a (s2 a ha), n2, fun H' e' g hH ho hs hn => ?_⟩
      obtain ⟨g1, o', nd', sub⟩ := k2 H' e' g (fun b hb hb' => hH b (s1 b hb) hb') ho (fun b hb => (hs b hb).imp id fun z y => z (s1 b y)) hn
      obtain ⟨g2, o3, nd3, sub3⟩ := k1 H' (setP x p e') g1 (fun b hb hb' => hH b hb fun z => hb' (s2 b z)) o' (fun b hb => by
        rcases sub b hb with z | z
        · exact .inl z
        · exact (hs b z).imp (s2 b) id) nd'
      refine ⟨g2, ?_, nd3, fun b hb => ?_⟩
      · show Own K F H' (n + p.length + 1) v (match subD d s with
          | some e => setD d s (setP e p e')
          | none => d) g2
        rw [q]
        exact o3
      · rcases sub3 b hb with z | z
        · exact .inl z
        · exact (sub b z).imp (s1 b) id
end
section
variable {K : PySem.W.Frag} {B fp : List Addr} {Pn : List V} {Z0 F0 F H : Hp} {σ : L2.St} {ρ : Env} {n i : Nat}
theorem StOk.path {d e : D} {p : List PSt} {P : Addr → HO → List Addr → Prop} (S : StOk K B Pn Z0 F0 F H σ ρ fp) (es : slot ρ i = some (n + 1 + p.length, d)) (hs : subP d p = some e)
    (hd : ∀ v f, Own K F H (n + 1) v e f → ∃ a g o, v = .ref a ∧ f = a :: g ∧ H a = some o ∧ P a o g) :
    ∃ v0 a g o, σ[i]? = some (some v0) ∧ PathV B H v0 p (.ref a) ∧ H a = some o ∧ P a o g ∧ a ∉ g ∧ g.Nodup ∧ (∀ b ∈ a :: g, b ∈ fp) ∧ ∀ o' e' g' fc, erO o' = o' → Apart B Z0 F fp fc → (∀ b ∈ g', b ∈ g ∨ b ∈ fc) → g'.Nodup →
      Own K F (upd H a o') (n + 1) (.ref a) e' (a :: g') → ∃ fp', StOk K B Pn Z0 F0 F (upd H a o') σ (ρ.set i (some (n + 1 + p.length, setP d p e'))) fp' := by
  obtain ⟨v, f, fp1, e1, e2, S1, ap1, sub⟩ := S.take es
  obtain ⟨v', f', pv, ow, s2, nd2, k⟩ := Own.path (B := B) e2 ap1.2 (fun a ha => (ap1.1 a ha).2.1) hs
  obtain ⟨a, g, o, rfl, rfl, ha, hP⟩ := hd v' f' ow
  obtain ⟨hag, hg⟩ := List.nodup_cons.mp nd2
  have haf : a ∈ f := s2 a List.mem_cons_self
  refine ⟨v, a, g, o, e1, pv, ha, hP, hag, hg, fun b hb => sub b (List.mem_append_right _ (s2 b hb)), fun o' e' g' fc ho ap hsub hn' ho' => ?_⟩
  obtain ⟨h1, h2, h3, h4⟩ := ap1.1 a haf
  have S2 := S1.mut h4 h1 h2 h3 ho
  have hi : i < (ρ.set i none).length := by rw [List.length_set]; exact slot_lt es
  have hac : a ∉ fc := fun z => (ap.1 a z).2.2.2 (sub a (List.mem_append_right _ haf))
  obtain ⟨fp', o3, nd3, sub3⟩ := k (upd H a o') e' (a :: g') (fun b hb hb' u eu => by rw [upd_ne (fun z => hb' (by rw [z]; exact List.mem_cons_self))]; exact eu) ho' (fun b hb => by
    rcases List.mem_cons.mp hb with z | z
    · exact .inl (by rw [z]; exact List.mem_cons_self)
    · rcases hsub b z with y | y
      · exact .inl (List.mem_cons_of_mem _ y)
      · exact .inr fun w => (ap.1 b y).2.2.2 (sub b (List.mem_append_right _ w))) (List.nodup_cons.mpr ⟨fun z => (hsub a z).elim hag hac, hn'⟩)
  have ap' : Apart B Z0 F fp1 fp' := by
    refine ⟨fun b hb => ?_, nd3⟩
    rcases sub3 b hb with q | q
    · exact ap1.1 b q
    · rcases List.mem_cons.mp q with z | z
      · rw [z]; exact ⟨h1, h2, h3, h4⟩
      · rcases hsub b z with q | q
        · exact ap1.1 b (s2 b (List.mem_cons_of_mem _ q))
        · obtain ⟨k1, k2, k3, k4⟩ := ap.1 b q
          exact ⟨k1, k2, k3, fun r => k4 (sub b (List.mem_append_left _ r))⟩
  obtain ⟨fp2, S3⟩ := S2.put (i := i) o3 ap' hi e1
  rw [List.set_set] at S3
  exact ⟨fp2, S3⟩
end
end GK

namespace GK
open PySem PySem.Spec PyProof.Rows L2

/-! ### an expression that names a place -/
abbrev FP := Env → (List PSt → Prop) → Prop
def tP (K : PySem.W.Frag) (B : List Addr) (i : Nat) (g : FP) : TE := fun σ H Q => ∃ F ρ fp R, StOk K B [] noH noH F H σ ρ fp ∧ g ρ R ∧
  ∀ F' H' p v v0, Step B [] F H F' H' → σ[i]? = some (some v0) → PathV B H' v0 p v → R p → Q v H'
abbrev DP (X : Cx) (B : List Addr) (e : Expr) (i : Nat) (g : FP) : Prop := PE X e (tP X.K B i g)
/-- what stands at a place -/
def atP (ρ : Env) (i : Nat) (p : List PSt) (k : Nat → D → D → Prop) : Prop := match slot ρ i with
  | some (m, d) => ∃ n e, m = n + 1 + p.length ∧ subP d p = some e ∧ k n d e
  | none => False
theorem atP.inv {ρ : Env} {i : Nat} {p : List PSt} {k : Nat → D → D → Prop} (h : atP ρ i p k) : ∃ n d e, slot ρ i = some (n + 1 + p.length, d) ∧ subP d p = some e ∧ k n d e := by
  unfold atP at h
  split at h
  · rename_i m d q
    obtain ⟨n, e, rfl, h1, h2⟩ := h
    exact ⟨n, d, e, q, h1, h2⟩
  · exact h.elim
section
variable {K : PySem.W.Frag} {B fp : List Addr} {Pn : List V} {Z0 F0 F H : Hp} {σ : L2.St} {ρ : Env} {n i : Nat}
/-- what is new is apart -/
theorem StOk.apart {F' : Hp} {fx : List Addr} (S : StOk K B Pn Z0 F0 F H σ ρ fp) (ox : ∀ a ∈ fx, (a ∈ ([] : List Addr) ∨ H a = none) ∧ F' a = none ∧ a ∉ B) (nx : fx.Nodup) : Apart B Z0 F' fp fx := by
  refine ⟨fun b hb => ?_, nx⟩
  obtain ⟨h1, h2, h3⟩ := ox b hb
  have hz : H b = none := h1.elim (fun z => by cases z) id
  refine ⟨h2, h3, ?_, fun hm => ?_⟩
  · cases q : Z0 b with
    | none => rfl
    | some u => rw [S.z b u q] at hz; cases hz
  · obtain ⟨u, eu, _⟩ := S.own.there b hm
    rw [hz] at eu; cases eu
/-- a value that a place names -/
theorem StOk.seen {d e : D} {p : List PSt} {v0 v : V} (S : StOk K B Pn Z0 F0 F H σ ρ fp) (es : slot ρ i = some (n + p.length, d)) (hv : σ[i]? = some (some v0)) (hs : subP d p = some e) (hp : PathV B H v0 p v) :
    ∃ f, Own K F H n v e f ∧ f.Nodup ∧ ∀ a ∈ f, a ∉ B := by
  obtain ⟨v1, f, fp1, e1, e2, S1, ap1, sub⟩ := S.take es
  rw [hv] at e1
  cases e1
  obtain ⟨v', f', pv, ow, s2, nd2, k⟩ := Own.path (B := B) e2 ap1.2 (fun a ha => (ap1.1 a ha).2.1) hs
  cases hp.det pv
  exact ⟨f', ow, nd2, fun a ha => (ap1.1 a (s2 a ha)).2.1⟩
end
section
variable {X : Cx} {e e2 : Expr} {i : Nat} {g : FP} {fe : FE} {pos p : Pos} {x : Str} {m2 : Mode}
theorem dp_var (i : Nat) (hN : NameOk X i x := by exact ⟨rfl, by first | exact Or.inl rfl | exact Or.inr (Or.inl rfl) | exact Or.inr (Or.inr rfl), by decide, by decide⟩) : DP X B (.Name x pos) i (fun ρ R => (slot ρ i).isSome = true ∧ R []) :=
  PE.imp (pe_var hN.1 hN.2 hN.3 hN.4) fun σ H Q ⟨F, ρ, fp, R, S, ⟨h0, hg⟩, k⟩ => by
    cases q : slot ρ i with
    | none => rw [q] at h0; cases h0
    | some z =>
      obtain ⟨v, f, e1, _⟩ := S.own.slot q
      exact ⟨v, e1, k F H [] v v (Step.refl S.wf) e1 rfl hg⟩
/-- .f -/
theorem dp_fld {C : Addr} {f : Str} (he : DP X B e i g) (c : Cls X.K C) (nf : NoAttr X.K C f) (hb : attributeBase e f X.env (eval e X.env) = eval e X.env := by rfl) :
    DP X B (.Attribute e f pos) i (fun ρ R => g ρ fun p => atP ρ i p fun _ _ x => (∃ es y, x = .obj C es ∧ es.lookup f = some y) ∧ R (p ++ [.fld f])) :=
  PE.imp (pe_fld he hb) fun σ H Q ⟨F, ρ, fp, R, S, hg, k⟩ => by
    refine ⟨F, ρ, fp, _, S, hg, fun F' H' p v v0 s hv hp hR => ?_⟩
    obtain ⟨n', d', x, es', hsub, ⟨ys, y, rfl, hl⟩, hR⟩ := hR.inv
    have S' := S.step s fun a h => (by cases h)
    obtain ⟨f1, ow, nd, hB⟩ := S'.seen es' hv hsub hp
    obtain ⟨w, f2, ⟨a, C', dx, fs, rfl, hb', ha, l⟩, _⟩ := ow.sub (s := .fld f) nd hB hl
    obtain ⟨a', dx', fs', g', e1, e2, e3, e4, _⟩ := ow
    cases e1
    rw [ha] at e2
    cases e2
    exact ⟨a, C, dx, fs, w, rfl, ha, c, nf, l, k F' H' (p ++ [.fld f]) w v0 s hv (hp.app (q := .fld f) ⟨a, C, dx, fs, rfl, hb', ha, l⟩) hR⟩
/-- [j] of a list -/
theorem dp_ix (he : DP X B e i g) (hj : DE X B e2 (.own 0) fe) (hs : PlainIx e2 := by exact fun _ _ => rfl) :
    DP X B (.Subscript e e2 pos) i (fun ρ R => g ρ fun p => fe ρ fun j => atP ρ i p fun _ _ x => ∃ ds j' k, x = .lst ds ∧ j = .int j' ∧ ixN ds.length j' = some k ∧ R (p ++ [.ix k])) :=
  PE.imp (pe_ix ix_seq he hj hs) fun σ H Q ⟨F, ρ, fp, R, S, hg, k⟩ => by
    refine ⟨F, ρ, fp, _, S, hg, fun F1 H1 p v v0 s1 hv hp hf => ⟨F1, ρ, fp, _, S.step s1 (fun a h => by cases h), hf, fun F2 H2 w j fj s2 hw oj nj hR => ?_⟩⟩
    obtain ⟨n', d', x, es', hsub, ⟨ds, j', kx, rfl, rfl, hk, hR⟩⟩ := hR.inv
    have S2 := (S.step s1 (fun a h => by cases h)).step s2 fun a h => (by cases h)
    have hp2 := hp.same s2.same
    obtain ⟨f1, ow, nd, hB⟩ := S2.seen es' hv hsub hp2
    obtain ⟨rfl, _⟩ := hw.int
    obtain ⟨a, vs, g', rfl, h1, rfl, t⟩ := ow
    have hlt : kx < ds.length := by
      unfold ixN at hk
      split at hk
      · split at hk
        · cases hk; omega
        · cases hk
      · split at hk
        · cases hk; omega
        · cases hk
    have hl := t.len
    obtain ⟨y, hv'⟩ : ∃ y, vs[kx]? = some y := ⟨_, List.getElem?_eq_getElem (by omega)⟩
    exact .inl ⟨a, vs, j', y, rfl, rfl, SqL.of h1, by unfold atI; rw [hl, hk]; exact hv', k F2 H2 (p ++ [.ix kx]) _ v0 (s1.trans s2 fun a h => (by cases h)) hv (hp2.app (q := .ix kx) ⟨a, vs, rfl, hB a List.mem_cons_self, h1, hv'⟩) hR⟩
/-- [k] of a dict -/
theorem dp_key (hu : X.A.units + 1 < cLine) (he : DP X B e i g) (hj : DE X B e2 (.own 0) fe) (hs : NoSl e2 := by exact fun _ _ => rfl) :
    DP X B (.Subscript e e2 pos) i (fun ρ R => g ρ fun p => fe ρ fun j => atP ρ i p fun _ _ x => (∃ es k y, x = .dK es ∧ keyOf j = some k ∧ getD' es k = some y ∧ R (p ++ [.key k])) ∨ ∃ es k y, x = .dT es ∧ keyT j = some k ∧ getD' es k = some y ∧ R (p ++ [.keyT k])) :=
  PE.imp (pe_dget hu he hj hs) fun σ H Q ⟨F, ρ, fp, R, S, hg, k⟩ => by
    refine ⟨F, ρ, fp, _, S, hg, fun F1 H1 p v v0 s1 hv hp hf => ⟨F1, ρ, fp, _, S.step s1 (fun a h => by cases h), hf, fun F2 H2 w j fj s2 hw oj nj hR => ?_⟩⟩
    obtain ⟨n', d', x, es', hsub, hR⟩ := hR.inv
    have S2 := (S.step s1 (fun a h => by cases h)).step s2 fun a h => (by cases h)
    have hp2 := hp.same s2.same
    obtain ⟨f1, ow, nd, hB⟩ := S2.seen es' hv hsub hp2
    rcases hR with ⟨ys, kk, y, rfl, ek, eg, hq⟩ | ⟨ys, kk, y, rfl, ek, eg, hq⟩
    · obtain ⟨w', f2, ⟨a, kvs, rfl, hb', ha, l⟩, _⟩ := ow.sub (s := .key kk) nd hB eg
      have ew := keyOf_R ek hw.1
      subst ew
      exact ⟨a, w', rfl, .inl ⟨kvs, kk, .inl ha, rfl, l.symm⟩, k F2 H2 (p ++ [.key kk]) _ v0 (s1.trans s2 fun a h => (by cases h)) hv (hp2.app (q := .key kk) ⟨a, kvs, rfl, hb', ha, l⟩) hq⟩
    · obtain ⟨w', f2, ⟨a, kvs, rfl, hb', ha, l⟩, _⟩ := ow.sub (s := .keyT kk) nd hB eg
      cases j <;> try (cases ek; done)
      obtain ⟨ta, ws, rfl, ht, hrl⟩ := hw.1.tupI
      have ew := keysOf_R ek hrl
      subst ew
      exact ⟨a, w', rfl, .inr ⟨kvs, kk, ta, .inl ha, rfl, tup_of S2.wf (S2.wf.sub _ _ ht), l.symm⟩, k F2 H2 (p ++ [.keyT kk]) _ v0 (s1.trans s2 fun a h => (by cases h)) hv (hp2.app (q := .keyT kk) ⟨a, kvs, rfl, hb', ha, l⟩) hq⟩
end
/-! what is done at a place -/
def atLst (ρ : Env) (i n : Nat) (p : List PSt) (k : D → List D → Prop) : Prop := atP ρ i p fun n' d e => n' = n ∧ match e with
  | .lst ds => k d ds
  | _ => False
theorem atLst.inv {ρ : Env} {i n : Nat} {p : List PSt} {k : D → List D → Prop} (h : atLst ρ i n p k) : ∃ d ds, slot ρ i = some (n + 1 + p.length, d) ∧ subP d p = some (.lst ds) ∧ k d ds := by
  obtain ⟨n', d, e, h1, h2, rfl, h3⟩ := atP.inv h
  cases e <;> try exact h3.elim
  exact ⟨d, _, h1, h2, h3⟩
def atDK (ρ : Env) (i n : Nat) (p : List PSt) (k : D → List (Key × D) → Prop) : Prop := atP ρ i p fun n' d e => n' = n ∧ match e with
  | .dK ds => k d ds
  | _ => False
theorem atDK.inv {ρ : Env} {i n : Nat} {p : List PSt} {k : D → List (Key × D) → Prop} (h : atDK ρ i n p k) : ∃ d ds, slot ρ i = some (n + 1 + p.length, d) ∧ subP d p = some (.dK ds) ∧ k d ds := by
  obtain ⟨n', d, e, h1, h2, rfl, h3⟩ := atP.inv h
  cases e <;> try exact h3.elim
  exact ⟨d, _, h1, h2, h3⟩
def atDT (ρ : Env) (i n : Nat) (p : List PSt) (k : D → List (List Key × D) → Prop) : Prop := atP ρ i p fun n' d e => n' = n ∧ match e with
  | .dT ds => k d ds
  | _ => False
theorem atDT.inv {ρ : Env} {i n : Nat} {p : List PSt} {k : D → List (List Key × D) → Prop} (h : atDT ρ i n p k) : ∃ d ds, slot ρ i = some (n + 1 + p.length, d) ∧ subP d p = some (.dT ds) ∧ k d ds := by
  obtain ⟨n', d, e, h1, h2, rfl, h3⟩ := atP.inv h
  cases e <;> try exact h3.elim
  exact ⟨d, _, h1, h2, h3⟩
section
variable {X : Cx} {e e2 o : Expr} {pin n i : Nat} {m mr : Mode} {f : FM} {fe fv : FE} {g : FP} {pos p apos cpos : Pos}
/-- P.append(e) -/
theorem dm_appendP (n : Nat) (ho : DP X B o i g) (he : DE X B e (.own n) fe) (hb : BmOk X o "append" apos e [] cpos := by exact ⟨rfl, rfl, rfl, rfl, rfl⟩) :
    DM X B (.Call (.Attribute o "append" apos) [e] [] cpos) pin m (fun ρ R => g ρ fun p => (atLst ρ i n p fun _ _ => True) ∧ fe ρ fun x => atLst ρ i n p fun d ds => ds.length < sizeLine ∧ R .non (ρ.set i (some (n + 1 + p.length, setP d p (.lst (ds ++ [x])))))) :=
  PE.imp (pe_bm PySem.F.plainAttrs_list PySem.F.slot_list_append PySem.F.type_list_append mt_append ho (pa_cons he pa_nil hb.4) hb.1 hb.2 hb.3 hb.4 hb.5) fun σ H Q ⟨Pn, Z0, F0, F, ρ, fp, R, hpl, S, hg, k⟩ => by
    refine ⟨F, ρ, fp, _, S.base, hg, fun F1 H1 p v v0 s1 hv0 hp ⟨h0, hf⟩ => ?_⟩
    have S1 := S.step s1 fun a h => (by cases h)
    obtain ⟨d, ds, es, hs, _⟩ := h0.inv
    obtain ⟨v1, a, gg, o', hv1, pv, ha, ⟨vs, rfl, _⟩, _⟩ := S1.path es hs own_lst
    rw [hv0] at hv1
    cases hv1
    cases hp.det pv
    refine ⟨.inl ⟨rfl, _, SqL.of ha⟩, F1, ρ, fp, _, S1.base, hf, fun F2 H2 w x fx s2 hw ox nx hx => ?_⟩
    have S2 := S1.step s2 fun a h => (by cases h)
    obtain ⟨d', ds', es', hs', hz, hR⟩ := hx.inv
    obtain ⟨v2, a2, g2, o2, hv2, pv2, ha2, ⟨vs2, rfl, t2⟩, hag, hgn, hin, kk⟩ := S2.path es' hs' own_lst
    rw [hv0] at hv2
    cases hv2
    cases (hp.same s2.same).det pv2
    have ap : Apart B Z0 F2 fp fx := S1.apart ox nx
    have hax : a ∉ fx := fun z => (ap.1 a z).2.2.2 (hin a List.mem_cons_self)
    obtain ⟨fp3, S3⟩ := kk (.lst (vs2 ++ [w])) (.lst (ds' ++ [x])) (g2 ++ fx) fx rfl ap (fun b hb => List.mem_append.mp hb) (nd_of hgn nx fun b hb z => (ap.1 b hb).2.2.2 (hin b (List.mem_cons_of_mem _ z)))
      ⟨a, vs2 ++ [w], g2 ++ fx, rfl, upd_same, rfl, (t2.upd hag).append (OwnL.one (Own.upd (show Own X.K F2 H2 n w x fx from hw) hax))⟩
    exact ⟨a, vs2, w, rfl, rfl, ha2, by rw [t2.len]; exact hz, k F2 _ _ fp3 .non .non [] S3 (Val.atom rfl fun _ => .non) .nil hR⟩
end
end GK

namespace GK
open PySem PySem.Spec PyProof.Rows L2

section
variable {X : Cx} {e e2 o : Expr} {pin n i : Nat} {m mr : Mode} {f : FM} {fe fv : FE} {g : FP} {pos p apos cpos : Pos}
/-- P[j] = e, P a list -/
theorem ds_setPL (n : Nat) (he : DM X B e pin (.own n) f) (ho : DP X B o i g) (hj : DE X B e2 (.own 0) fe)
    (ha : ∀ v, assign (.Subscript o e2 apos) X.env v = (do
      let ov ← holding [v] (eval o X.env)
      let iv ← holding [v, ov] (eval e2 X.env)
      standAt apos
      holding [v, ov, iv] (setItem ov iv v)
      release [v, ov, iv] []) := by intro _; rfl)
    (hs : swapsWithSole [.Subscript o e2 apos] e pos.line X.env = pure false := by rfl) (hw : swappedStores [.Subscript o e2 apos] e X.env = pure none := by rfl)
    (h1 : (assignEach [.Subscript o e2 apos] X.env).map (·.2) = [assign (.Subscript o e2 apos) X.env] := by rfl) :
    DS X B (.Assign [.Subscript o e2 apos] e pos) pin mr (fun E ρ => f ρ fun x ρ' => g ρ' fun p => fe ρ' fun j => atLst ρ' i n p fun d ds => ∃ j' k, j = .int j' ∧ ixN ds.length j' = some k ∧ E.nx (ρ'.set i (some (n + 1 + p.length, setP d p (.lst (ds.set k x)))))) :=
  PS.imp (ps_asg he (pg_sub ho hj set_list ha) hs hw h1) fun Dn σ H ⟨Pn, Z0, F0, F, ρ, fp, E, hpl, S, hf, L⟩ => by
    refine ⟨Pn, Z0, F0, F, ρ, fp, _, hpl, S, hf, fun F' H' ρ' fp' v x f' S' hv ap hg => ?_⟩
    refine ⟨F', ρ', fp', _, S'.base, hg, fun F1 H1 p w v0 s1 hv0 hp hf => ?_⟩
    have S1 := S'.step s1 fun a h => (by cases h)
    refine ⟨F1, ρ', fp', _, S1.base, hf, fun F2 H2 y j fj s2 hw oj nj hR => ?_⟩
    have S2 := S1.step s2 fun a h => (by cases h)
    obtain ⟨d, ds, es, hs, j', kx, rfl, hk, hR⟩ := hR.inv
    obtain ⟨rfl, _⟩ := hw.int
    obtain ⟨v2, a, g2, o2, hv2, pv2, ha2, ⟨vs, rfl, t⟩, hag, hgn, hin, kk⟩ := S2.path es hs own_lst
    rw [hv0] at hv2
    cases hv2
    cases (hp.same s2.same).det pv2
    have s12 := s1.trans s2 fun a h => (by cases h)
    have ap2 : Apart B Z0 F2 fp' f' := ⟨fun b hb => by
      obtain ⟨q1, q2, q3, q4⟩ := ap.1 b hb
      obtain ⟨o, eo, mu⟩ := hv.there b hb
      exact ⟨s12.out eo mu q2 q1 (fun z => (by cases z)), q2, q3, q4⟩, ap.2⟩
    have hv2 : Own X.K F2 H2 n v x f' := Val.step (m := .own n) hv s12 fun b hb => (ap.1 b hb).2.1
    have haf : a ∉ f' := fun z => (ap2.1 a z).2.2.2 (hin a List.mem_cons_self)
    obtain ⟨g3, o3, sub, nd⟩ := OwnL.set hv2 kx t (nd_of hgn ap.2 fun b hb z => (ap2.1 b hb).2.2.2 (hin b (List.mem_cons_of_mem _ z)))
    have hag3 : a ∉ g3 := fun z => (sub a z).elim hag haf
    obtain ⟨fp3, S3⟩ := kk (.lst (vs.set kx v)) (.lst (ds.set kx x)) g3 f' rfl ap2 sub nd ⟨a, vs.set kx v, g3, rfl, upd_same, rfl, o3.upd hag3⟩
    exact ⟨a, vs, j', kx, rfl, rfl, ha2, by rw [t.len]; exact hk, L.nx F2 _ _ _ fp3 S3 hR⟩
/-- P[k] = e, P a dict, what is kept may be read -/
theorem ds_putP (hu : X.A.units + 1 < cLine) (he : DM X B e pin (.own 0) f) (ho : DP X B o i g) (hj : DE X B e2 (.own 0) fe) (hs : swapsWith e (some (.Subscript o e2 apos)) pos.line X.env = pure false := by rfl) :
    DS X B (.Assign [.Subscript o e2 apos] e pos) pin mr (fun E ρ => f ρ fun x ρ' => g ρ' fun p => fe ρ' fun j => atP ρ' i p fun n' d y => n' = 0 ∧ ∃ y', putDD y j x = some y' ∧ E.nx (ρ'.set i (some (1 + p.length, setP d p y')))) :=
  PS.imp (ps_dput hu ho hj he hs) fun Dn σ H ⟨Pn, Z0, F0, F, ρ, fp, E, hpl, S, hf, L⟩ => by
    refine ⟨Pn, Z0, F0, F, ρ, fp, _, hpl, S, hf, fun F' H' ρ' fp' v x f' S' hv ap hg => ?_⟩
    refine ⟨F', ρ', fp', _, S'.base, hg, fun F1 H1 p w v0 s1 hv0 hp hf => ?_⟩
    have S1 := S'.step s1 fun a h => (by cases h)
    refine ⟨F1, ρ', fp', _, S1.base, hf, fun F2 H2 y j fj s2 hw oj nj hR => ?_⟩
    have S2 := S1.step s2 fun a h => (by cases h)
    obtain ⟨n', d, y0, es, hs, rfl, y', hy, hR⟩ := hR.inv
    have s12 := s1.trans s2 fun a h => (by cases h)
    obtain ⟨hv0', rfl⟩ := (show Own X.K F' H' 0 v x f' from hv)
    have hx := R.mono s12.fs hv0'
    have hpp := hp.same s2.same
    cases y0 <;> try (cases hy; done)
    · rename_i ys
      obtain ⟨v2, a, g2, o2, hv2, pv2, ha2, ⟨kvs, rfl, hk, t⟩, hag, hgn, hin, kk⟩ := S2.path es hs own_dK
      rw [hv0] at hv2
      cases hv2
      cases hpp.det pv2
      obtain ⟨u, dp, eu, ow⟩ := dput_ok (Da := a) (acc := .dK ys) S2.wf (show Own X.K F2 H2 1 (.ref a) (.dK ys) [a] from ⟨a, kvs, [], rfl, ha2, rfl, hk, OwnL.zero t.toRL0⟩) hw.1 hx hy
      obtain ⟨fp3, S3⟩ := kk u y' [] [] eu .nil (fun b h => (by cases h)) List.nodup_nil ow
      exact ⟨a, _, rfl, dp, L.nx F2 _ _ _ fp3 S3 (by rw [Nat.zero_add]; exact hR)⟩
    · rename_i ys
      obtain ⟨v2, a, g2, o2, hv2, pv2, ha2, ⟨kvs, rfl, hk, t⟩, hag, hgn, hin, kk⟩ := S2.path es hs own_dT
      rw [hv0] at hv2
      cases hv2
      cases hpp.det pv2
      obtain ⟨u, dp, eu, ow⟩ := dput_ok (Da := a) (acc := .dT ys) S2.wf (show Own X.K F2 H2 1 (.ref a) (.dT ys) [a] from ⟨a, kvs, [], rfl, ha2, rfl, hk, OwnL.zero t.toRL0⟩) hw.1 hx hy
      obtain ⟨fp3, S3⟩ := kk u y' [] [] eu .nil (fun b h => (by cases h)) List.nodup_nil ow
      exact ⟨a, _, rfl, dp, L.nx F2 _ _ _ fp3 S3 (by rw [Nat.zero_add]; exact hR)⟩
end
end GK

namespace GK
open PySem PySem.Spec PyProof.Rows L2

/-! ### texts -/
/-- a text times an int -/
def repS (z : Str) (n : Int) : Str := ⟨((List.replicate n.toNat z.cps.toList).flatten).toArray⟩
theorem foldl_app (l : List (Array Nat)) : ∀ (a : Array Nat), (l.foldl (· ++ ·) a).toList = a.toList ++ (l.map Array.toList).flatten := by
  induction l with
  | nil => intro a; simp
  | cons x r ih => intro a; rw [List.foldl_cons, ih]; simp
theorem repS_of (z : Str) (n : Int) : (⟨(List.replicate n.toNat z.cps).foldl (· ++ ·) #[]⟩ : Str) = repS z n := by
  unfold repS
  congr 1
  apply Array.toList_inj.mp
  rw [foldl_app, List.map_replicate]
  simp
theorem repS_len (z : Str) (n : Int) : (repS z n).length = n.toNat * z.length := by
  unfold repS Str.length
  simp
theorem op_repS {X : Cx} : OpR X (binaryOp .Mult) (fun x y H Q => ∃ z n, x = .str z ∧ y = .int n ∧ -(2 ^ 63) ≤ n ∧ n < 2 ^ 63 ∧ n.toNat * z.length ≤ sizeLine ∧ Q (.str (repS z n)) H) := by
  intro pins s σ H x y v u Q I rx ry ⟨z, n, e1, e2, h1, h2, h3, q⟩
  subst e1
  subst e2
  obtain ⟨t, rfl⟩ := rx
  obtain ⟨t', rfl⟩ := ry
  have hs : (sizeLine : Nat) = 16777216 := by decide
  have fin : ∀ (w : Str), w = repS z n → (w.length ≤ sizeLine ∧ EP X pins σ Q (.str w s.toks) { s with toks := s.toks + 1 }) := fun w e => by
    subst e
    exact ⟨by rw [repS_len]; exact h3, .str _, H, I.tok _, ⟨_, rfl⟩, q⟩
  refine PySem.P.mul_str ?_ (fun g1 _ => ?_) (fun g1 _ => ?_) ?_
  · rw [decide_eq_false (by omega), decide_eq_false (by omega)]; rfl
  · have hn : (n.toNat : Int) = n := Int.toNat_of_nonneg (by omega)
    have hp : 0 < n := by omega
    have hh : ((n.toNat * z.length : Nat) : Int) ≤ 16777216 := by omega
    have h4 : (z.length : Int) * n ≤ 2 ^ 63 - 1 := by
      rw [← hn, Int.mul_comm]
      rw [Int.natCast_mul] at hh
      omega
    have := Int.le_ediv_of_mul_le hp h4
    omega
  · have : ¬ (z.length * n.toNat > sizeLine) := by rw [Nat.mul_comm]; omega
    unfold Builtin.Str.tooLong
    exact decide_eq_false this
  · split
    · rename_i hlt
      refine fin Str.empty ?_
      have h0 : n.toNat = 0 := by omega
      unfold repS
      rw [h0]
      rfl
    · split
      · rename_i hn1 hc
        refine ⟨.str z, H, I, ⟨_, rfl⟩, ?_⟩
        have e : repS z n = z := by
          rw [Bool.or_eq_true] at hc
          unfold repS
          rcases hc with hc | hc
          · have : n = 1 := by simpa using hc
            subst this
            simp
          · have h0 : z.length = 0 := by simpa using hc
            have h0' : z.cps = #[] := by
              apply Array.eq_empty_of_size_eq_zero
              exact h0
            have ez : z = ⟨#[]⟩ := by cases z; simp_all
            rw [ez]
            simp
        rw [e] at q
        exact q
      · exact fin _ (repS_of z n)
def gCatS : D → D → (D → Prop) → Prop
  | .str a, .str b, R => a.length + b.length ≤ sizeLine ∧ R (.str (a ++ b))
  | _, _, _ => False
def gRepS : D → D → (D → Prop) → Prop
  | .str a, .int n, R => -(2 ^ 63) ≤ n ∧ n < 2 ^ 63 ∧ n.toNat * a.length ≤ sizeLine ∧ R (.str (repS a n))
  | _, _, _ => False
section
variable {X : Cx} {a b e : Expr} {pos apos cpos : Pos} {m m1 m2 : Mode} {f f' : FE}
theorem de_catS (ha : DE X B a m1 f) (hb : DE X B b m2 f') : DE X B (.BinOp a .Add b pos) m (fBin gCatS f f') := de_op op_add_str (by
  intro B F H x y d e fp R Q w ⟨f1, f2, ef, hx, hy⟩ _ hg k
  cases d <;> cases e <;> try exact (show False from hg).elim
  obtain ⟨rfl, _⟩ := hx.str
  obtain ⟨rfl, _⟩ := hy.str
  exact ⟨_, _, rfl, rfl, hg.1, k.str w hg.2⟩) ha hb
theorem de_repS (ha : DE X B a m1 f) (hb : DE X B b m2 f') : DE X B (.BinOp a .Mult b pos) m (fBin gRepS f f') := de_op op_repS (by
  intro B F H x y d e fp R Q w ⟨f1, f2, ef, hx, hy⟩ _ hg k
  cases d <;> cases e <;> try exact (show False from hg).elim
  obtain ⟨rfl, _⟩ := hx.str
  obtain ⟨rfl, _⟩ := hy.int
  exact ⟨_, _, rfl, rfl, hg.1, hg.2.1, hg.2.2.1, k.str w hg.2.2.2⟩) ha hb
def strD : D → Prop
  | .str _ => True
  | _ => False
def gFind : D → List D → (D → Prop) → Prop
  | .str a, [.str b], R => R (.int (Txt.find a b))
  | _, _, _ => False
/-- z.find(y) -/
theorem de_find {o : Expr} (ho : DE X B o m1 f) (ha : DE X B e m2 f') (hb : BmOk X o "find" apos e [] cpos := by exact ⟨rfl, rfl, rfl, rfl, rfl⟩) : DE X B (.Call (.Attribute o "find" apos) [e] [] cpos) m (fun ρ R => f ρ fun d => strD d ∧ fCons f' fNil ρ fun ds => gFind d ds R) :=
  de_M PySem.F.plainAttrs_str PySem.F.slot_str_find PySem.F.type_str_find mt_find ⟨fun B F H x d fp w hv hf h => by
    cases d <;> try exact h.elim
    obtain ⟨rfl, _⟩ := hv.str
    exact (rfl : "str" = "str"), fun B F H x d vs ds fp R Q w ⟨f1, f2, ef, hx, hv⟩ hf hg k => by
    unfold gFind at hg
    split at hg
    · obtain ⟨rfl, _⟩ := hx.str
      obtain ⟨v, rfl, hw⟩ := ValL.one hv
      obtain ⟨rfl, _⟩ := hw.str
      exact ⟨_, _, rfl, rfl, k.int w hg⟩
    · exact hg.elim⟩ ho (da_cons ha da_nil hb.4) hb
end
end GK

namespace GK
open PySem PySem.Spec PyProof.Rows L2

/-! ### sorted, list, sum, isinstance, in -/
def leD : D → D → Bool := PySem.W.dataLe false toP
inductive Pr (P : V → D → Prop) : List V → List D → Prop where
  | nil : Pr P [] []
  | cons {v : V} {d : D} {vs : List V} {ds : List D} (h : P v d) (t : Pr P vs ds) : Pr P (v :: vs) (d :: ds)
theorem each_pr {P : V → D → Prop} : ∀ {us : List Value} {ds : List D}, PySem.W.EachIs (fun u d => ∃ v, RelV v u ∧ P v d) us ds → ∃ vs, Vals vs us ∧ Pr P vs ds
  | _, _, .nil => ⟨[], .nil, .nil⟩
  | _, _, .cons ⟨v, r, p⟩ t => by
    obtain ⟨vs, h1, h2⟩ := each_pr t
    exact ⟨v :: vs, .cons r h1, .cons p h2⟩
theorem pr_each {P : V → D → Prop} : ∀ {vs : List V} {us : List Value} {ds : List D}, Vals vs us → Pr P vs ds → PySem.W.EachIs (fun u d => ∃ v, RelV v u ∧ P v d) us ds
  | _, _, _, .nil, .nil => .nil
  | _, _, _, .cons r t, .cons p q => .cons ⟨_, r, p⟩ (pr_each t q)
def rSortD (K : PySem.W.Frag) : List V → Hp → VK → Prop := fun vs H Q => ∃ (a : Addr) (xs : List V) (ds : List D) (P : V → D → Prop), vs = [.ref a] ∧ SqL K H a xs ∧ Pr P xs ds ∧ (∀ v d, P v d → d ∈ ds → Dp K H v (toP d)) ∧
  PySem.W.AllAlike (ds.map toP) ∧ PySem.W.Sortable (ds.map toP) ∧ (∀ d ∈ ds, (toP d).depth ≤ 64) ∧ ∀ ys p, Pr P ys (ds.mergeSort leD) → H p = none → Q (.ref p) (upd H p (.lst ys))
theorem each_memD {R : Value → D → Prop} : ∀ {us : List Value} {ds : List D}, PySem.W.EachIs R us ds → PySem.W.EachIs (fun u d => R u d ∧ d ∈ ds) us ds
  | _, _, .nil => .nil
  | _, _, .cons h t => .cons ⟨h, List.mem_cons_self⟩ ((each_memD t).mono fun _ _ ⟨a, b⟩ => ⟨a, List.mem_cons_of_mem _ b⟩)
theorem cr_sortD {X : Cx} (hu : X.A.units + 67 < cLine) : CallR X (.builtin "sorted") (rSortD X.K) := by
  intro pins s σ H vs us Q I r ⟨a, xs, ds, P, e, hs, hp, hd, hal, hso, hde, q⟩
  subst e
  obtain ⟨its, rv, hl, hz⟩ := I.list hs
  rw [Vals.ref1 r]
  have ev := pr_each rv hp
  have er : PySem.W.EachIs (fun u d => ∃ as, Reads s.heap u (toP d) as) its ds := (each_memD ev).mono fun u d ⟨⟨v, r, p⟩, hm⟩ => Dp.reads I (toP d) v u (hd v d p hm) r
  have lz : ds.length ≤ sizeLine := by rw [← ev.length, ← rv.length]; exact hz
  refine PySem.W.sorted_data hl.isList ev er hal hso lz (fun d hm => by have := hde d hm; omega) fun out hlen eo => ?_
  obtain ⟨ys, h1, h2⟩ := each_pr eo
  obtain ⟨ep, he'⟩ := PyProof.Rows.sortedAll_at s.heap its out.toArray
  exact ⟨.ref _, upd H (s.heap.objs.size + 1) (.lst ys), I.laid (t' := s.toks) (fun _ _ => PyProof.Rows.sortedAll_old) (Nat.le_succ _) ⟨by rw [h1.length, hlen]; exact lz, out, ep, h1, he'⟩, rfl, q _ _ h2 (I.hok.fresh (Nat.le_succ _))⟩
theorem pr_rl {K : PySem.W.Frag} {F : Hp} : ∀ {vs : List V} {ds : List D}, Pr (R K F) vs ds → RL K F vs ds
  | _, _, .nil => .nil
  | _, _, .cons h t => .cons h (pr_rl t)
theorem rl_pr {K : PySem.W.Frag} {F : Hp} : ∀ {vs : List V} {ds : List D}, RL K F vs ds → Pr (R K F) vs ds
  | _, _, .nil => .nil
  | _, _, .cons h t => .cons h (rl_pr t)
def sortOk (ds : List D) : Prop := (∀ d ∈ ds, okD 64 d = true) ∧ PySem.W.AllAlike (ds.map toP) ∧ PySem.W.Sortable (ds.map toP)
def gSort : List D → (D → Prop) → Prop
  | [.lst ds], R => sortOk ds ∧ R (.lst (ds.mergeSort leD))
  | _, _ => False
theorem opN_sort {K : PySem.W.Frag} {m1 : Mode} (h1 : m1.flat1 = true) : OpN K (rSortD K) [m1] (.own 1) gSort := by
  intro B F H vs ds fp R Q w hv hf hg k
  unfold gSort at hg
  split at hg
  · obtain ⟨v, rfl, h⟩ := hv.one
    obtain ⟨a, xs, rfl, ha, r⟩ := h.lstRL h1 w
    exact ⟨a, xs, _, GK.R K F, rfl, SqL.of ha, rl_pr r, fun v d r hm => GK.R.dp (hg.1.1 d hm) (r.mono w.sub), hg.1.2.1, hg.1.2.2, fun d hm => (okD_can (hg.1.1 d hm)).2, fun ys p hy hz => k.newLst0 w (pr_rl hy) hg.2 hz⟩
  · exact hg.elim
def gListL : List D → (D → Prop) → Prop
  | [.lst ds], R => R (.lst ds)
  | _, _ => False
def gListT : List D → (D → Prop) → Prop
  | [.tup ds], R => R (.lst ds)
  | _, _ => False
def gListK : List D → (D → Prop) → Prop
  | [d], R => ∃ ks, keysD d = some ks ∧ R (.lst ks)
  | _, _ => False
theorem opN_listL {K : PySem.W.Frag} {m1 : Mode} (h1 : m1.flat1 = true) : OpN K (fun xs H Q => ∃ p ys, xs = [.ref p] ∧ (SqL K H p ys ∨ SqT K H p ys) ∧ ∀ l, H l = none → Q (.ref l) (upd H l (.lst ys))) [m1] (.own 1) gListL := by
  intro B F H vs ds fp R Q w hv hf hg k
  unfold gListL at hg
  split at hg
  · obtain ⟨v, rfl, h⟩ := hv.one
    obtain ⟨a, xs, rfl, ha, r⟩ := h.lstRL h1 w
    exact ⟨a, xs, rfl, .inl (SqL.of ha), fun l hl => k.newLst0 w r hg hl⟩
  · exact hg.elim
theorem opN_listT {K : PySem.W.Frag} : OpN K (fun xs H Q => ∃ p ys, xs = [.ref p] ∧ (SqL K H p ys ∨ SqT K H p ys) ∧ ∀ l, H l = none → Q (.ref l) (upd H l (.lst ys))) [.own 0] (.own 1) gListT := by
  intro B F H vs ds fp R Q w hv hf hg k
  unfold gListT at hg
  split at hg
  · obtain ⟨v, rfl, h⟩ := hv.one
    obtain ⟨a, xs, rfl, ha, r⟩ := (show GK.R K F v _ from h.1).tupI
    exact ⟨a, xs, rfl, .inr (sqT_rd (w.sub _ _ ha)), fun l hl => k.newLst0 w r hg hl⟩
  · exact hg.elim
theorem BagOk.noTup {B : List Addr} {H : Hp} (b : BagOk B H) {a : Addr} {vs : List V} (h : H a = some (.tup vs)) : a ∉ B := by
  intro hm
  rcases b with e | ⟨b, c, l, ts, cells, left, turn, e, ht, h1, h2, h3, _⟩
  · rw [e] at hm; cases hm
  · rw [e] at hm
    rcases List.mem_cons.mp hm with z | hm
    · subst z; rw [h1] at h; cases h
    · rcases List.mem_cons.mp hm with z | hm
      · subst z; rw [h2] at h; cases h
      · rcases List.mem_cons.mp hm with z | hm
        · subst z; rw [h3] at h; cases h
        · obtain ⟨o, xs, q⟩ := ht a hm
          rw [q] at h; cases h
theorem keys_rl {K : PySem.W.Frag} {G H : Hp} (hG : ∀ a vs, H a = some (.tup vs) → G a = some (.tup vs)) : ∀ {kvs : List (List Key × V)} {bs : List Addr}, Paired (fun p b => H b = some (.tup (p.1.map kV))) kvs bs → RL K G (bs.map V.ref) (kvs.map fun p => D.tup (p.1.map keyD))
  | _, _, .nil => .nil
  | _, _, .cons h t => .cons (.tup (hG _ _ h) (keysD_RL _)) (keys_rl hG t)
theorem opN_listK {K : PySem.W.Frag} {m1 : Mode} (h1 : m1.look = true) : OpN K (fun xs H Q => (∃ (a : Addr) (kvs : List (Key × V)), xs = [.ref a] ∧ Rd H a (.dK kvs) ∧ ∀ p, H p = none → Q (.ref p) (upd H p (.lst (kvs.map fun kv => kV kv.1)))) ∨
    ∃ d kvs, xs = [V.ref d] ∧ Rd H d (.dT kvs) ∧ ∀ p bs, H p = none → IsKeys H kvs bs → Q (.ref p) (upd H p (.lst (bs.map V.ref)))) [m1] (.own 1) gListK := by
  intro B F H vs ds fp R Q w hv hf hg k
  unfold gListK at hg
  split at hg
  · rename_i d
    obtain ⟨ks, ek, hR⟩ := hg
    obtain ⟨v, rfl, h⟩ := hv.one
    cases d <;> try (cases ek; done)
    · rename_i es
      obtain ⟨_, a, kvs, rfl, hr, hk, it⟩ := h.dK h1 w
      have ek' := Option.some.inj ek
      subst ek'
      refine .inl ⟨a, kvs, rfl, hr, fun p hp => ?_⟩
      have e1 : (kvs.map fun kv => kV kv.1) = (kvs.map (·.1)).map kV := by rw [List.map_map]; rfl
      have e2 : (es.map fun e => keyD e.1) = (es.map (·.1)).map keyD := by rw [List.map_map]; rfl
      rw [e1, hk]
      rw [e2] at hR
      exact k.newLst0 w (keysD_RL _) hR hp
    · rename_i es
      obtain ⟨_, a, kvs, rfl, hr, hk, it⟩ := h.dT h1 w
      have ek' := Option.some.inj ek
      subst ek'
      refine .inr ⟨a, kvs, rfl, hr, fun p bs hp hb => ?_⟩
      have e2 : (es.map fun e => D.tup (e.1.map keyD)) = kvs.map fun e => D.tup (e.1.map keyD) := by
        have : ∀ (l : List (List Key)), (l.map fun k => D.tup (k.map keyD)) = l.map fun k => D.tup (k.map keyD) := fun _ => rfl
        have a1 : (es.map fun e => D.tup (e.1.map keyD)) = (es.map (·.1)).map fun k => D.tup (k.map keyD) := by rw [List.map_map]; rfl
        have a2 : (kvs.map fun e => D.tup (e.1.map keyD)) = (kvs.map (·.1)).map fun k => D.tup (k.map keyD) := by rw [List.map_map]; rfl
        rw [a1, a2, hk]
      rw [e2] at hR
      have s := (Step.refl (A := fp) w).addT
      exact (k.after s (A1 := fp) fun a ha => .inl ha).newLst0 s.wf (keys_rl (fun a vs h => addT_tup w.sub (rdH_of (w.bag.noTup h) h rfl)) hb) hR hp
  · exact hg.elim
def intsOf : List D → Option (List Int)
  | [] => some []
  | .int i :: ds => (intsOf ds).map (i :: ·)
  | _ => none
theorem ints_of {ds : List D} {ns : List Int} (h : intsOf ds = some ns) : ds = ns.map D.int := by
  induction ds generalizing ns with
  | nil => cases h; rfl
  | cons d r ih =>
    cases d <;> try (cases h; done)
    rename_i i
    have h : (intsOf r).map (i :: ·) = some ns := h
    cases q : intsOf r with
    | none => rw [q] at h; cases h
    | some l =>
      rw [q] at h
      cases h
      rw [ih q]; rfl
theorem Items.ints {K : PySem.W.Frag} {m : Mode} {B : List Addr} {F H : Hp} {vs : List V} {ns : List Int} (it : Items K m B F H vs (ns.map D.int)) : vs = ns.map V.int := by
  refine List.ext_getElem? fun i => ?_
  cases q : ns[i]? with
  | none =>
    have hl := List.getElem?_eq_none_iff.mp q
    rw [List.getElem?_eq_none (by rw [it.1, List.length_map]; exact hl), List.getElem?_eq_none (by rw [List.length_map]; exact hl)]
  | some n =>
    have e : (ns.map D.int)[i]? = some (.int n) := by rw [List.getElem?_map, q]; rfl
    obtain ⟨x, h1, h2⟩ := it.2 i _ e
    obtain ⟨rfl, _⟩ := h2.int
    rw [h1, List.getElem?_map, q]; rfl
def gSum : List D → (D → Prop) → Prop
  | [.lst ds], R => ∃ ns, intsOf ds = some ns ∧ R (.int ns.sum)
  | _, _ => False
theorem opN_sum {K : PySem.W.Frag} {m1 m : Mode} (h1 : m1.look = true) : OpN K (rSum K) [m1] m gSum := by
  intro B F H vs ds fp R Q w hv hf hg k
  unfold gSum at hg
  split at hg
  · obtain ⟨ns, e, hR⟩ := hg
    obtain ⟨v, rfl, h⟩ := hv.one
    obtain ⟨_, a, xs, rfl, ha, it⟩ := h.lst h1 w
    have e' := ints_of e
    subst e'
    have := it.ints
    subst this
    exact ⟨a, ns, rfl, ha, k.int w hR⟩
  · exact hg.elim
/-! the type of a value -/
def tyD : D → Option Value
  | .non => some (.type "NoneType")
  | .bl _ => some (.type "bool")
  | .int _ => some (.type "int")
  | .str _ => some (.type "str")
  | .tup _ => some (.type "tuple")
  | .lst _ => some (.type "list")
  | .dK _ => some (.type "dict")
  | .dT _ => none
  | .obj C _ => some (.ref C)
  | .raw _ => none
/-- what is to be known of a class for isinstance -/
structure IsiC (K : PySem.W.Frag) (C : Addr) : Prop where
  cl : Cls K C
  ha : PySem.W.findIn K (.ref C) "__class__" = some (some (.builtin "object.__class__"))
  hn : PySem.W.specialIn K (.builtin "object.__class__") "__get__" = some (some (.builtin "getset_descriptor.__get__"))
  ht : PySem.W.takesIn K (.builtin "object.__class__") = some true
  hm : PySem.W.mroIn K C (.type "object") = some true
def clV : V → Option Value
  | .ty n => some (.type n)
  | .ref C => some (.ref C)
  | _ => none
def gIsi (K : PySem.W.Frag) : List D → (D → Prop) → Prop
  | [d, .raw c], R => ∃ t u b, tyD d = some t ∧ clV c = some u ∧ PySem.W.kitOne K t u = some b ∧ (∀ C es, d = .obj C es → IsiC K C) ∧ R (.bl b)
  | _, _ => False
end GK

namespace GK
open PySem PySem.Spec PyProof.Rows L2

section
variable {K : PySem.W.Frag} {m m1 m2 : Mode}
theorem Val.tyX {B fp : List Addr} {F H : Hp} {v : V} {d : D} {t : Value} (hm : m.look = true) (w : WF B F H) (h : Val K m B F H v d fp) (e : tyD d = some t) (hc : ∀ C es, d = .obj C es → IsiC K C) : TyX K H v t := by
  cases d <;> try (cases e; done)
  · cases e; obtain ⟨rfl, _⟩ := h.non; exact .base .non
  · cases e; obtain ⟨rfl, _⟩ := h.bl; exact .base (.bl _)
  · cases e; obtain ⟨rfl, _⟩ := h.int; exact .base (.int _)
  · cases e; obtain ⟨rfl, _⟩ := h.str; exact .base (.str _)
  · cases e
    obtain ⟨_, a, vs, rfl, hs, _⟩ := h.tup hm w
    rcases hs with hs | ⟨o, its, n, hk, h1, _⟩
    · rcases hs with hs | ⟨o, hs⟩
      · exact .base (.tup hs)
      · exact .fTuple hs
    · exact .kTuple hk h1
  · cases e
    obtain ⟨_, a, vs, rfl, hs, _⟩ := h.lst hm w
    rcases hs with hs | ⟨o, its, n, hk, h1, _⟩
    · rcases hs with hs | ⟨o, hs⟩
      · exact .base (.lst hs)
      · exact .base (.frz hs)
    · exact .kList hk h1
  · cases e
    obtain ⟨_, a, kvs, rfl, hr, _⟩ := h.dK hm w
    rcases hr with hs | ⟨o, hs⟩
    · exact .base (.dK hs)
    · exact .fDict hs
  · cases e
    rename_i C es
    obtain ⟨_, a, dx, fs, rfl, ha, _⟩ := h.obj hm w
    have c := hc C es rfl
    exact .base (.ins ha c.cl c.ha c.hn c.ht c.hm)
theorem raw_v {B fp : List Addr} {F H : Hp} {v c : V} (h : Val K m B F H v (.raw c) fp) : v = c := by
  cases m with
  | rd => cases h.1; rfl
  | bor n =>
    obtain ⟨⟨f, h, _⟩, _⟩ := h
    cases n with
    | zero => cases h.1; rfl
    | succ n => cases h.1; rfl
  | own n =>
    cases n with
    | zero => cases (show Own K F H 0 v _ fp from h).1; rfl
    | succ n => cases (show R K F v _ ∧ _ from h).1; rfl
theorem clV_ok {c : V} {u : Value} (h : clV c = some u) : ClsV c u := by
  cases c <;> try (cases h; done)
  · cases h; exact .own _
  · cases h; exact .ty _
theorem opN_isi (hm : m1.look = true) : OpN K (rIsi K) [m1, m2] m (gIsi K) := by
  intro B F H vs ds fp R Q w hv hf hg k
  unfold gIsi at hg
  split at hg
  · obtain ⟨t, u, b, e1, e2, e3, hc, hR⟩ := hg
    obtain ⟨v, v', f, f', rfl, h, h', _⟩ := hv.two
    have := raw_v h'
    subst this
    exact ⟨v, _, t, u, b, rfl, clV_ok e2, h.tyX hm w e1 hc, e3, k.bl w hR⟩
  · exact hg.elim
end
section
variable {X : Cx} {e e2 : Expr} {x : Str} {p pos : Pos} {m m1 m2 : Mode} {f f' : FE}
theorem de_ty {T : String} (hg : Gl X x) (hm : X.mg x = none) (hv : bootBuiltins x = some (.type T)) (hn : x ≠ "__name__" := by decide) (hd : (x == ("__debug__" : Str)) = false := by decide) : DE X B (.Name x pos) m (fun _ R => R (.raw (.ty T))) :=
  PE.imp (pe_bltn hg hm hv (v := .ty T) rfl hn hd) fun σ H Q ⟨F, ρ, fp, R, S, hf, k⟩ => k.at S.wf rfl (fun _ => .raw _) hf
/-- a class, a def of the module -/
theorem de_glb {a : Addr} (hg : Gl X x) (hm : X.mg x = some (.ref a)) (hd : (x == ("__debug__" : Str)) = false := by decide) : DE X B (.Name x pos) m (fun _ R => R (.raw (.ref a))) :=
  PE.imp (pe_glob hg hm (v := .ref a) rfl hd) fun σ H Q ⟨F, ρ, fp, R, S, hf, k⟩ => k.at S.wf rfl (fun _ => .raw _) hf
/-- a constant of the module that is an int or a text -/
theorem de_gint {i : Int} {t : Tok} (hg : Gl X x) (hm : X.mg x = some (.int i t)) (hd : (x == ("__debug__" : Str)) = false := by decide) : DE X B (.Name x pos) m (fun _ R => R (.int i)) :=
  PE.imp (pe_glob hg hm (v := .int i) ⟨_, rfl⟩ hd) fun σ H Q ⟨F, ρ, fp, R, S, hf, k⟩ => k.int S.wf hf
theorem de_gstr {i : Str} {t : Tok} (hg : Gl X x) (hm : X.mg x = some (.str i t)) (hd : (x == ("__debug__" : Str)) = false := by decide) : DE X B (.Name x pos) m (fun _ R => R (.str i)) :=
  PE.imp (pe_glob hg hm (v := .str i) ⟨_, rfl⟩ hd) fun σ H Q ⟨F, ρ, fp, R, S, hf, k⟩ => k.str S.wf hf
theorem de_isi (hz : X.mg "isinstance" = none) (ha : DE X B e m1 f) (hb : DE X B e2 m2 f') (hm : m1.look = true := by rfl) (hg : Gl X "isinstance" := by rfl) (he : starEach [e, e2] X.env = (false, eval e X.env) :: starEach [e2] X.env := by rfl) (he2 : starEach [e2] X.env = (false, eval e2 X.env) :: starEach [] X.env := by rfl) (hpl : (backTo pos (starEach [e2] X.env)).any (·.1) = false := by rfl) :
    DE X B (.Call (.Name "isinstance" p) [e, e2] [] pos) m (fArgs (gIsi X.K) (fCons f (fCons f' fNil))) := de_B call_isi (opN_isi hm) hg hz (by decide +kernel) (da_cons ha (da_cons hb da_nil he2) he) (by decide) (by decide) he hpl
theorem de_sorted (hu : X.A.units + 67 < cLine) (hz : X.mg "sorted" = none) (ha : DE X B e m1 f) (hm : m1.flat1 = true := by rfl) (hg : Gl X "sorted" := by rfl) (he : starEach [e] X.env = (false, eval e X.env) :: starEach [] X.env := by rfl) (hpl : (backTo pos (starEach [] X.env)).any (·.1) = false := by rfl) :
    DE X B (.Call (.Name "sorted" p) [e] [] pos) (.own 1) (fArgs gSort (fCons f fNil)) := de_B (cr_sortD hu) (opN_sort hm) hg hz (by decide +kernel) (da_cons ha da_nil he) (by decide) (by decide) he hpl
theorem de_sum (hc : X.calm = true) (hz : X.mg "sum" = none) (ha : DE X B e m1 f) (hm : m1.look = true := by rfl) (hg : Gl X "sum" := by rfl) (he : starEach [e] X.env = (false, eval e X.env) :: starEach [] X.env := by rfl) (hpl : (backTo pos (starEach [] X.env)).any (·.1) = false := by rfl) :
    DE X B (.Call (.Name "sum" p) [e] [] pos) m (fArgs gSum (fCons f fNil)) := de_B (cr_sum hc) (opN_sum hm) hg hz (by decide +kernel) (da_cons ha da_nil he) (by decide) (by decide) he hpl
theorem de_listL (hz : X.mg "list" = none) (ha : DE X B e m1 f) (hm : m1.flat1 = true := by rfl) (hg : Gl X "list" := by rfl) (he : starEach [e] X.env = (false, eval e X.env) :: starEach [] X.env := by rfl) (hpl : (backTo pos (starEach [] X.env)).any (·.1) = false := by rfl) :
    DE X B (.Call (.Name "list" p) [e] [] pos) (.own 1) (fArgs gListL (fCons f fNil)) := de_Ty call_list_of (opN_listL hm) hg hz (by decide +kernel) (da_cons ha da_nil he) (by decide) (by decide) he hpl
theorem de_listT (hz : X.mg "list" = none) (ha : DE X B e (.own 0) f) (hg : Gl X "list" := by rfl) (he : starEach [e] X.env = (false, eval e X.env) :: starEach [] X.env := by rfl) (hpl : (backTo pos (starEach [] X.env)).any (·.1) = false := by rfl) :
    DE X B (.Call (.Name "list" p) [e] [] pos) (.own 1) (fArgs gListT (fCons f fNil)) := de_Ty call_list_of opN_listT hg hz (by decide +kernel) (da_cons ha da_nil he) (by decide) (by decide) he hpl
theorem de_listK (hc : X.calm = true) (hz : X.mg "list" = none) (ha : DE X B e m1 f) (hm : m1.look = true := by rfl) (hg : Gl X "list" := by rfl) (he : starEach [e] X.env = (false, eval e X.env) :: starEach [] X.env := by rfl) (hpl : (backTo pos (starEach [] X.env)).any (·.1) = false := by rfl) :
    DE X B (.Call (.Name "list" p) [e] [] pos) (.own 1) (fArgs gListK (fCons f fNil)) := de_Ty ((call_listD hc).or (call_list_dT hc)) (opN_listK hm) hg hz (by decide +kernel) (da_cons ha da_nil he) (by decide) (by decide) he hpl
end
/-! x in a list or tuple of atoms -/
def flD : D → Bool
  | .non => true
  | .bl _ => true
  | .int _ => true
  | .str _ => true
  | _ => false
def eqF : D → D → Bool
  | .non, .non => true
  | .bl a, .bl b => a == b
  | .int a, .int b => a == b
  | .str a, .str b => a == b
  | .bl a, .int b => (if a then 1 else 0) == b
  | .int a, .bl b => a == (if b then 1 else 0)
  | _, _ => false
end GK

namespace GK
open PySem PySem.Spec PyProof.Rows L2

/-! ### x in a list or tuple of atoms -/
def flV : D → V
  | .bl b => .bl b
  | .int i => .int i
  | .str s => .str s
  | _ => .non
def itemsOf : D → Option (List D)
  | .lst ds => some ds
  | .tup ds => some ds
  | _ => none
def gIn (n : Bool) (x y : D) (R : D → Prop) : Prop := ∃ ds, itemsOf y = some ds ∧ flD x = true ∧ ds.all flD = true ∧ R (.bl (n ^^ ds.any fun z => eqF z x))
section
variable {K : PySem.W.Frag} {m m1 m2 : Mode}
theorem Val.fl {B fp : List Addr} {F H : Hp} {v : V} {d : D} (e : flD d = true) (h : Val K m B F H v d fp) : v = flV d := by
  cases d <;> try (cases e; done)
  · exact h.non.1
  · exact h.bl.1
  · exact h.int.1
  · exact h.str.1
theorem Items.fl {B : List Addr} {F H : Hp} {vs : List V} {ds : List D} (e : ds.all flD = true) (it : Items K m B F H vs ds) : vs = ds.map flV := by
  refine List.ext_getElem? fun i => ?_
  cases q : ds[i]? with
  | none =>
    have hl := List.getElem?_eq_none_iff.mp q
    rw [List.getElem?_eq_none (by rw [it.1]; exact hl), List.getElem?_eq_none (by rw [List.length_map]; exact hl)]
  | some d =>
    obtain ⟨x, h1, h2⟩ := it.2 i _ q
    rw [h1, List.getElem?_map, q, h2.fl (List.all_eq_true.mp e d (List.mem_of_getElem? q))]; rfl
theorem flV_flat (d : D) : flatV (flV d) = true := by cases d <;> rfl
theorem eqF_V {z x : D} (hz : flD z = true) (hx : flD x = true) : eqV (flV z) (flV x) = eqF z x := by
  cases z <;> try (cases hz; done)
  all_goals (cases x <;> try (cases hx; done))
  all_goals rfl
theorem inV_D {x : D} (hx : flD x = true) : ∀ {ds : List D}, ds.all flD = true → inV (flV x) (ds.map flV) = ds.any fun z => eqF z x
  | [], _ => rfl
  | z :: ds, h => by
    rw [List.all_cons, Bool.and_eq_true] at h
    have ih := inV_D hx h.2
    unfold inV at ih ⊢
    rw [List.map_cons, List.any_cons, List.any_cons, ih, eqF_V h.1 hx]
theorem op2_in {n : Bool} (hm : m2.look = true) : Op2 K (rIn K n) m1 m2 m (gIn n) := by
  intro B F H x y d e fp R Q w ⟨f1, f2, ef, hx, hy⟩ _ ⟨ds, e1, e2, e3, hR⟩ k
  have ev := hx.fl e2
  subst ev
  have fin : ∀ {p : Addr} {vs : List V}, (SqL K H p vs ∨ SqT K H p vs) → vs = ds.map flV → rIn K n (flV d) (.ref p) H Q := fun {p vs} hs ev => by
    subst ev
    refine ⟨p, _, rfl, hs, flV_flat d, ?_, ?_⟩
    · rw [List.all_map]
      exact List.all_eq_true.mpr fun z _ => flV_flat z
    · rw [inV_D e2 e3]
      cases n with
      | true =>
        rw [if_pos rfl]
        exact k.bl w (by simpa using hR)
      | false =>
        rw [if_neg Bool.false_ne_true]
        exact k.bl w (by simpa using hR)
  cases e <;> try (cases e1; done)
  · cases e1
    obtain ⟨_, a, vs, rfl, hs, it⟩ := hy.tup hm w
    exact fin (.inr hs) (it.fl e3)
  · cases e1
    obtain ⟨_, a, vs, rfl, hs, it⟩ := hy.lst hm w
    exact fin (.inl hs) (it.fl e3)
/-- .. items at any depth -/
def gInD (n : Bool) (x y : D) (R : D → Prop) : Prop := ∃ ds, y = .lst ds ∧ okD 63 x = true ∧ okD 64 y = true ∧ R (.bl (n ^^ ds.any fun z => PyData.eqv (toP z) (toP x)))
theorem toPs_map : ∀ ds : List D, toPs ds = ds.map toP
  | [] => by simp [toPs]
  | d :: ds => by rw [toPs, List.map_cons, toPs_map ds]
theorem op2_inD : Op2 K (rInD K) m1 m2 m (gInD false) := by
  intro B F H x y d e fp R Q w ⟨f1, f2, ef, hx, hy⟩ hf ⟨ds, e1, e2, e3, hR⟩ k
  subst ef
  subst e1
  have r1 := hx.rd w fun a ha => (hf.1 a (List.mem_append_left _ ha)).2
  have r2 := hy.rd w fun a ha => (hf.1 a (List.mem_append_right _ ha)).2
  refine ⟨toP d, toPs ds, GK.R.dp e2 r1, by have := GK.R.dp e3 r2; rw [toP] at this; exact this, okD_shaped e2 (by decide), by have := okD_shaped e3 (by decide); rw [toP] at this; exact this, ?_⟩
  rw [toPs_map, List.any_map]
  exact k.bl w (by rw [Bool.false_xor] at hR; exact hR)
theorem op2_notInD : Op2 K (rNotInD K) m1 m2 m (gInD true) := by
  intro B F H x y d e fp R Q w ⟨f1, f2, ef, hx, hy⟩ hf ⟨ds, e1, e2, e3, hR⟩ k
  subst ef
  subst e1
  have r1 := hx.rd w fun a ha => (hf.1 a (List.mem_append_left _ ha)).2
  have r2 := hy.rd w fun a ha => (hf.1 a (List.mem_append_right _ ha)).2
  refine ⟨toP d, toPs ds, GK.R.dp e2 r1, by have := GK.R.dp e3 r2; rw [toP] at this; exact this, okD_shaped e2 (by decide), by have := okD_shaped e3 (by decide); rw [toP] at this; exact this, ?_⟩
  rw [toPs_map, List.any_map]
  exact k.bl w (by rw [Bool.true_xor] at hR; exact hR)
end
section
variable {X : Cx} {a b : Expr} {pos : Pos} {m m1 m2 : Mode} {f f' : FE}
theorem de_in (ha : DE X B a m1 f) (hb : DE X B b m2 f') (hm : m2.look = true := by rfl) (h1 : behindInMarks .In b = false := by rfl) : DE X B (.Compare a [.In] [b] pos) m (fBin (gIn false) f f') := de_cmp op_in_seq (op2_in hm) ha hb h1
theorem de_notin (ha : DE X B a m1 f) (hb : DE X B b m2 f') (hm : m2.look = true := by rfl) (h1 : behindInMarks .NotIn b = false := by rfl) : DE X B (.Compare a [.NotIn] [b] pos) m (fBin (gIn true) f f') := de_cmp op_notIn_seq (op2_in hm) ha hb h1
theorem dt_in (ha : DE X B a m1 f) (hb : DE X B b m2 f') (hm : m2.look = true := by rfl) (h1 : behindInMarks .In b = false := by rfl) : DT X B (.Compare a [.In] [b] pos) (fBool (fBin (gIn false) f f')) := dt_cmp .rd op_in_seq (op2_in hm) ha hb h1
theorem dt_notin (ha : DE X B a m1 f) (hb : DE X B b m2 f') (hm : m2.look = true := by rfl) (h1 : behindInMarks .NotIn b = false := by rfl) : DT X B (.Compare a [.NotIn] [b] pos) (fBool (fBin (gIn true) f f')) := dt_cmp .rd op_notIn_seq (op2_in hm) ha hb h1
theorem de_inD (hu : X.A.units + 65 < cLine) (ha : DE X B a m1 f) (hb : DE X B b m2 f') (h1 : behindInMarks .In b = false := by rfl) : DE X B (.Compare a [.In] [b] pos) m (fBin (gInD false) f f') := de_cmp (op_inD hu) op2_inD ha hb h1
theorem de_notinD (hu : X.A.units + 65 < cLine) (ha : DE X B a m1 f) (hb : DE X B b m2 f') (h1 : behindInMarks .NotIn b = false := by rfl) : DE X B (.Compare a [.NotIn] [b] pos) m (fBin (gInD true) f f') := de_cmp (op_notInD hu) op2_notInD ha hb h1
theorem dt_inD (hu : X.A.units + 65 < cLine) (ha : DE X B a m1 f) (hb : DE X B b m2 f') (h1 : behindInMarks .In b = false := by rfl) : DT X B (.Compare a [.In] [b] pos) (fBool (fBin (gInD false) f f')) := dt_cmp .rd (op_inD hu) op2_inD ha hb h1
theorem dt_notinD (hu : X.A.units + 65 < cLine) (ha : DE X B a m1 f) (hb : DE X B b m2 f') (h1 : behindInMarks .NotIn b = false := by rfl) : DT X B (.Compare a [.NotIn] [b] pos) (fBool (fBin (gInD true) f f')) := dt_cmp .rd (op_notInD hu) op2_notInD ha hb h1
end

/-! ### pop -/
section
variable {K : PySem.W.Frag} {B fp : List Addr} {Pn : List V} {Z0 F0 F H : Hp} {σ : L2.St} {ρ : Env} {n i : Nat}
theorem seqIx {i : Int} {n k : Nat} (h : ixN n i = some k) : seqIndex? i n = some k := by
  unfold ixN at h
  unfold seqIndex?
  split at h
  · rename_i h0
    split at h
    · rename_i h1
      cases h
      simp [show ¬ i < 0 by omega, h0, h1]
    · cases h
  · rename_i h0
    split at h
    · rename_i h1
      cases h
      simp [show i < 0 by omega, show 0 ≤ i + (n : Int) by omega, show i + (n : Int) < n by omega]
    · cases h
/-- an item is taken out of the list at a name -/
theorem StOk.popped {ds : List D} (S : StOk K B Pn Z0 F0 F H σ ρ fp) (e : slot ρ i = some (n + 1, .lst ds)) {k : Nat} {d : D} (hk : ds[k]? = some d) :
    ∃ a vs v f fp', σ[i]? = some (some (.ref a)) ∧ H a = some (.lst vs) ∧ vs.length = ds.length ∧ vs[k]? = some v ∧ StOk K B Pn Z0 F0 F (upd H a (.lst (vs.eraseIdx k))) σ (ρ.set i (some (n + 1, .lst (ds.eraseIdx k)))) fp' ∧
      Own K F (upd H a (.lst (vs.eraseIdx k))) n v d f ∧ Apart B Z0 F fp' f := by
  obtain ⟨v0, f0, fp1, e1, e2, S1, ap1, sub⟩ := S.take e
  obtain ⟨a, vs, g, rfl, ha, rfl, t⟩ := e2
  obtain ⟨hag, hg⟩ := List.nodup_cons.mp ap1.2
  obtain ⟨h1, h2, h3, h4⟩ := ap1.1 a List.mem_cons_self
  obtain ⟨g', t', sg, ng, kk⟩ := t.erase k hg
  have hl := t.len
  have hkl : k < ds.length := (List.getElem?_eq_some_iff.mp hk).1
  obtain ⟨v, hv⟩ : ∃ v, vs[k]? = some v := ⟨_, List.getElem?_eq_getElem (by omega)⟩
  obtain ⟨d', gv, q1, q2, q3, q4⟩ := kk v hv
  rw [hk] at q1
  cases q1
  obtain ⟨n1, n2, n3⟩ := List.nodup_append.mp q3
  have S2 := S1.mut (o := .lst (vs.eraseIdx k)) h4 h1 h2 h3 rfl
  have hag' : a ∉ g' := fun z => hag (sg a z)
  have hagv : a ∉ gv := fun z => hag (q4 a z)
  have ow : Own K F (upd H a (.lst (vs.eraseIdx k))) (n + 1) (.ref a) (.lst (ds.eraseIdx k)) (a :: g') := ⟨a, _, g', rfl, upd_same, rfl, t'.upd hag'⟩
  have hi : i < (ρ.set i none).length := by rw [List.length_set]; exact slot_lt e
  obtain ⟨fp2, o3, nd3, sub3⟩ := OwnE.set ow S2.own (List.nodup_append.mpr ⟨S2.nd, List.nodup_cons.mpr ⟨hag', ng⟩, fun b hb c hc e => by
    subst e
    rcases List.mem_cons.mp hc with z | z
    · subst z; exact h4 hb
    · exact (ap1.1 b (List.mem_cons_of_mem _ (sg b z))).2.2.2 hb⟩) hi
  rw [set_self e1, List.set_set] at o3
  have S3 : StOk K B Pn Z0 F0 F (upd H a (.lst (vs.eraseIdx k))) σ (ρ.set i (some (n + 1, .lst (ds.eraseIdx k)))) fp2 := by
    refine ⟨S2.wf, o3, nd3, fun b hb => ?_, S2.z, S2.zB, S2.f, S2.fr, S2.pn⟩
    rcases sub3 b hb with z | z
    · exact S2.out b z
    · rcases List.mem_cons.mp z with z | z
      · subst z; exact ⟨h1, h2, h3⟩
      · obtain ⟨r1, r2, r3, _⟩ := ap1.1 b (List.mem_cons_of_mem _ (sg b z))
        exact ⟨r1, r2, r3⟩
  refine ⟨a, vs, v, gv, fp2, e1, ha, hl, hv, S3, q2.upd hagv, ⟨fun b hb => ?_, n2⟩⟩
  obtain ⟨r1, r2, r3, r4⟩ := ap1.1 b (List.mem_cons_of_mem _ (q4 b hb))
  refine ⟨r1, r2, r3, fun z => ?_⟩
  rcases sub3 b z with y | y
  · exact r4 y
  · rcases List.mem_cons.mp y with y | y
    · subst y; exact hagv hb
    · exact n3 b y b hb rfl
end
section
variable {X : Cx} {e : Expr} {pin n i : Nat} {fe : FE} {f : FM} {x : Str} {pos p apos cpos : Pos}
/-- x.pop(j) -/
theorem dm_popAt (i n : Nat) (he : DE X B e (.own 0) fe) (hN : NameOk X i x := by exact ⟨rfl, by first | exact Or.inl rfl | exact Or.inr (Or.inl rfl) | exact Or.inr (Or.inr rfl), by decide, by decide⟩) (hb : BmOk X (.Name x p) "pop" apos e [] cpos := by exact ⟨rfl, rfl, rfl, rfl, rfl⟩) :
    DM X B (.Call (.Attribute (.Name x p) "pop" apos) [e] [] cpos) pin (.own n) (fun ρ R => ownLst ρ i n (fun _ => True) ∧ fe ρ fun j => ∃ j', j = .int j' ∧ -(2 ^ 63) ≤ j' ∧ j' < 2 ^ 63 ∧ ownLst ρ i n fun ds => ∃ k d, ixN ds.length j' = some k ∧ ds[k]? = some d ∧ R d (ρ.set i (some (n + 1, .lst (ds.eraseIdx k))))) :=
  PE.imp (pe_bm PySem.F.plainAttrs_list PySem.F.slot_list_pop PySem.F.type_list_pop mt_popAt (pe_var hN.1 hN.2 hN.3 hN.4) (pa_cons he pa_nil hb.4) hb.1 hb.2 hb.3 hb.4 hb.5) fun σ H Q ⟨Pn, Z0, F0, F, ρ, fp, R, hpl, S, ⟨h0, hf⟩, k⟩ => by
    obtain ⟨ds0, e0, _⟩ := h0.inv
    obtain ⟨a, vs, g, h1, h2, h3, h4, h5, h6, kk⟩ := S.lst e0
    refine ⟨_, h1, .inl ⟨rfl, _, SqL.of h2⟩, F, ρ, fp, _, S.base, hf, fun F' H' w j fj s hw oj nj ⟨j', ej, l1, l2, hR⟩ => ?_⟩
    subst ej
    obtain ⟨rfl, _⟩ := hw.int
    obtain ⟨ds, e1, kx, d, hk, hd, hR⟩ := hR.inv
    have S' := S.step s fun a h => (by cases h)
    obtain ⟨a', vs', v, f, fp', q1, q2, q3, q4, q5, q6, q7⟩ := S'.popped e1 hd
    rw [h1] at q1
    cases q1
    exact ⟨a, vs', j', kx, v, rfl, rfl, q2, l1, l2, by rw [q3]; exact seqIx hk, q4, k F' _ _ fp' v d f q5 q6 q7 hR⟩
/-- [e] -/
theorem dm_lst1 (n : Nat) (he : DM X B e pin (.own n) f) (hs : starEach [e] X.env = (false, eval e X.env) :: starEach [] X.env := by rfl) : DM X B (.List [e] pos) pin (.own (n + 1)) (fun ρ R => f ρ fun d ρ' => R (.lst [d]) ρ') :=
  PE.imp (pe_lst (pa_cons he pa_nil hs)) fun σ H Q ⟨Pn, Z0, F0, F, ρ, fp, R, hpl, S, hf, k⟩ => by
    refine ⟨Pn, Z0, F0, F, ρ, fp, _, hpl, S, hf, fun F' H' ρ' fp' v d f' S' hv ap hR => ?_⟩
    refine ⟨by show 1 ≤ sizeLine; decide, fun z hz => ?_⟩
    have hv : Own X.K F' H' n v d f' := hv
    have S2 := S'.step (Step.laid (A := []) S'.wf hz (o := .lst [v]) rfl) fun a h => (by cases h)
    have hzf : z ∉ f' := fun h => by obtain ⟨o, e, _⟩ := hv.there z h; rw [hz] at e; cases e
    refine k F' _ ρ' fp' (.ref z) (.lst [d]) (z :: f') S2 ⟨z, [v], f', rfl, upd_same, rfl, OwnL.one (hv.upd hzf)⟩ ⟨fun a ha => ?_, List.nodup_cons.mpr ⟨hzf, ap.2⟩⟩ hR
    rcases List.mem_cons.mp ha with y | y
    · subst y
      refine ⟨F_none S'.wf hz, S'.wf.notB hz, ?_, fun hm => ?_⟩
      · cases q : Z0 a with
        | none => rfl
        | some o => rw [S'.z a o q] at hz; cases hz
      · obtain ⟨o, e, _⟩ := S'.own.there a hm
        rw [hz] at e; cases e
    · exact ap.1 a y
/-- targets = e, what e gives may be read -/
theorem ds_asg {tg : Expr} {mr : Mode} {t : D → Env → Option Env} (he : DM X B e pin (.own 0) f) (hg : DG X pin tg t) (hs : swapsWithSole [tg] e pos.line X.env = pure false := by rfl) (hw : swappedStores [tg] e X.env = pure none := by rfl)
    (h1 : (assignEach [tg] X.env).map (·.2) = [assign tg X.env] := by rfl) : DS X B (.Assign [tg] e pos) pin mr (fun E ρ => f ρ fun d ρ' => ∃ ρ2, t d ρ' = some ρ2 ∧ E.nx ρ2) := by
  obtain ⟨g, pg, kg⟩ := hg.ok
  exact PS.imp (ps_asg he pg hs hw h1) fun Dn σ H ⟨Pn, Z0, F0, F, ρ, fp, E, hpl, S, hf, L⟩ => ⟨Pn, Z0, F0, F, ρ, fp, _, hpl, S, hf, fun F' H' ρ' fp' v d f' S' hv ap ⟨ρ2, e2, hR⟩ => by
    obtain ⟨hv, _⟩ := (show Own X.K F' H' 0 v d f' from hv)
    exact kg B Pn Z0 F0 F' H' σ ρ' ρ2 fp' v d hpl S' hv e2 _ fun σ' fp2 S2 => L.nx F' H' σ' ρ2 fp2 S2 hR⟩
end
end GK

namespace GK
open PySem PySem.Spec PyProof.Rows L2

/-! ### defs with defaults, calls with keywords -/
section
variable {P : Program} {w : World} {K : PySem.W.Frag} {mg : Str → Option Value} {base : Heap}
/-- .. with defaults -/
theorem FunD_okD {x qual : Str} {st : Stmt} {dvs : List V} {kws : List (Str × V)} {f : Addr} {fd : FuncData} {N ps : List Str} {k : Nat} {m : Mode} {W : BSpec} (F : FunD K x qual (defArgs st) (defBody st) (defScope st) dvs kws f fd) (S : FnScope N ps (defScope st)) (len : ∀ B ds R, W B ds R → ds.length = ps.length)
    (hbody : ∀ (B : List Addr) (cdv : Value) (A : Around) (outer : List PySem.Env) (s : Shared) (H : Hp) (E : XK), Room k (A.deeper (envOfC qual (defScope st) s.heap.objs.size f cdv)) →
      ∃ g, DSs (cxOf CX0 P w K mg base N qual (defScope st) f cdv A outer s H E).nox B (defBody st) 0 m g ∧ ∀ ds R, W B ds R → g (DEnds.fn R) (startE N ds)) : FnOk P w K mg base CX0 (k + 1) f fd ps (spD K m W) := by
  refine F.ok S (fun vs H Q E ⟨B, F, ds, R, w, r, hW, k⟩ => by rw [r.length]; exact len B ds R hW) fun cdv A outer s H vs Q E hr ⟨B, F, ds, R, w, r, hW, k⟩ => ?_
  obtain ⟨g, hg, hq⟩ := hbody B cdv A outer s H E hr
  refine ⟨_, hg.nox, [], prot B [] H, F, F, startE N ds, [], DEnds.fn R, rfl, ⟨w, ?_, List.nodup_nil, fun a h => (by cases h), prot_same, fun a h => prot_in (.inr h), fun _ _ h => h, fun a u h => .inl h, fun i v e => (by simp at e)⟩, hq ds R hW, ?_⟩
  · rw [start_eq]
    unfold startE
    rw [r.length]
    exact ownE_start _ r
  have back : ∀ {F' H' : Hp} {σ' : L2.St} {ρ' : Env} {fp' : List Addr}, StOk K B [] (prot B [] H) F F' H' σ' ρ' fp' → Step B [] F H F' H' := fun {F' H' σ' ρ' fp'} T =>
    ⟨fun a o hb e => T.z a o (by rw [prot_out (by simp) hb]; exact e), T.f, fun a u e => by
      rcases T.fr a u e with z | z | z
      · exact .inl z
      · right; left
        by_cases hb : a ∈ B
        · have := T.wf.outB hb
          rw [this] at e; cases e
        · rw [prot_out (by simp) hb] at z; exact z
      · exact .inr (.inr (.inl z)), T.wf⟩
  exact ⟨fun F' H' σ' ρ' fp' T h => k F' H' .non .non [] (back T) (Val.atom rfl fun _ => .non) (fun a h => (by cases h)) List.nodup_nil h,
    fun F' H' σ' ρ' fp' v d f T hv ap h => k F' H' v d f (back T) hv (fun a ha => by
      obtain ⟨h1, h2, h3, h4⟩ := ap.1 a ha
      refine ⟨.inr ?_, h1, h2⟩
      rw [prot_out (by simp) h2] at h3; exact h3) ap.2 h,
    fun _ _ _ _ _ _ h => h.elim, fun _ _ _ _ _ _ h => h.elim⟩
theorem FunD_okM {x qual : Str} {st : Stmt} {dvs : List V} {kws : List (Str × V)} {fa : Addr} {fd : FuncData} {N ps : List Str} {k n : Nat} {m : Mode} {W : FSpecM} (F : FunD K x qual (defArgs st) (defBody st) (defScope st) dvs kws fa fd) (S : FnScope N ps (defScope st)) (len : ∀ s ds R, W s ds R → ds.length + 1 = ps.length)
    (hbody : ∀ (B : List Addr) (cdv : Value) (A : Around) (outer : List PySem.Env) (s : Shared) (H : Hp) (E : XK), Room k (A.deeper (envOfC qual (defScope st) s.heap.objs.size fa cdv)) →
      ∃ g, DSs (cxOf CX0 P w K mg base N qual (defScope st) fa cdv A outer s H E).nox B (defBody st) 1 m g ∧ ∀ s ds R, W s ds R → g (DEnds.meth n R) (some (n, s) :: (envOf ds ++ List.replicate (N.length - (ds.length + 1)) none))) : FnOk P w K mg base CX0 (k + 1) fa fd ps (spM K n m W) := by
  refine F.ok S (fun vs H Q E ⟨B, F, v, ws, s, ds, f, R, e, w, o, a, r, hW, k⟩ => by rw [e, List.length_cons, r.length]; exact len s ds R hW) fun cdv A outer sh H vs Q E hr ⟨B, F, v, ws, s, ds, f, R, ev, w, ho, ⟨ha, hn⟩, r, hW, k⟩ => ?_
  obtain ⟨g, hg, hq⟩ := hbody B cdv A outer sh H E hr
  subst ev
  refine ⟨_, hg.nox, [v], prot B f H, F, F, _, f, DEnds.meth n R, rfl, ⟨w, ?_, hn, fun a h => ⟨(ha a h).1, (ha a h).2, prot_in (.inl h)⟩, prot_same, fun a h => prot_in (.inr h), fun _ _ h => h, fun a u h => .inl h, fun i u e => ?_⟩, hq s ds R hW, ?_⟩
  · rw [start_eq, List.length_cons, r.length]
    exact ⟨f, [], (List.append_nil f).symm, ho, ownE_start _ r⟩
  · cases i with
    | zero =>
      have e' : v = u := Option.some.inj e
      subst e'; rfl
    | succ i => simp at e
  have fin : ∀ {F' H' : Hp} {σ' : L2.St} {ρ' : Env} {fp' : List Addr} {s' : D} {r : V} {d : D} {fr : List Addr}, StOk K B [v] (prot B f H) F F' H' σ' ρ' fp' → slot ρ' 0 = some (n, s') → Val K m B F' H' r d fr → Apart B (prot B f H) F' fp' fr → R d s' → Q r H' := fun {F' H' σ' ρ' fp' s' r d fr} T e hv ap hR => by
    obtain ⟨v', f', fp2, e1, e2, T2, ap2, sub⟩ := T.take e
    have e3 := T.pn 0 v rfl
    rw [e3] at e1
    cases e1
    refine k F' H' r d fr s' f' T.stepM e2 hv (fun a ha => ?_) ?_ hR
    · have key : F' a = none ∧ a ∉ B ∧ prot B f H a = none := by
        rcases List.mem_append.mp ha with z | z
        · obtain ⟨h1, h2, h3, _⟩ := ap2.1 a z; exact ⟨h1, h2, h3⟩
        · obtain ⟨h1, h2, h3, _⟩ := ap.1 a z; exact ⟨h1, h2, h3⟩
      refine ⟨?_, key.1, key.2.1⟩
      by_cases hf : a ∈ f
      · exact .inl hf
      · right
        have := key.2.2
        rw [prot_out hf key.2.1] at this; exact this
    · refine List.nodup_append.mpr ⟨ap2.2, ap.2, fun a ha b hb e => ?_⟩
      subst e
      exact (ap.1 a hb).2.2.2 (sub a (List.mem_append_right _ ha))
  exact ⟨fun F' H' σ' ρ' fp' T ⟨s', e, h⟩ => fin T e (Val.atom (d := .non) (v := .non) rfl fun _ => .non) .nil h, fun F' H' σ' ρ' fp' v d f T hv ap ⟨s', e, h⟩ => fin T e hv ap h,
    fun _ _ _ _ _ _ h => h.elim, fun _ _ _ _ _ _ h => h.elim⟩
end
section
variable {K : PySem.W.Frag} {x qual : Str} {params : Arguments} {body : List Stmt} {scope : Scope} {kws : List (Str × V)} {f : Addr} {fd : FuncData} {ps : List Str}
/-- keyword-only defaults alone: some are written, ms are those that lack -/
theorem kbinds0 (F : FunD K x qual params body scope [] kws f fd) (n : Nat) (ks : List Str) (ms : List (Str × V)) (g : {α : Type} → List α → List α → List α → List α) (hk : kws ≠ []) (hms : ∀ q ∈ ms, q ∈ kws)
    (hrel : ∀ {vs mz zs : List V} {us mv ws : List Value}, Vals vs us → Vals mz mv → Vals zs ws → Vals (g vs mz zs) (g us mv ws))
    (h : ∀ (Da : Addr) (doc pm : Value) (an : Option Addr) (cdv ct : Value) (us mv ws : List Value), us.length = n → mv.length = ms.length → ws.length = ks.length →
      KwChain Da ((ms.map (·.1)).zip mv) (bindArgs (PySem.W.fnOf x qual params body scope .none (.ref Da) doc pm an cdv ct) ⟨us, ks.zip ws⟩) (ps.zip (g us mv ws))) :
    ∃ mv : List Value, KBn K fd ps n ks (fun us ws => g us mv ws) (fun vs zs => g vs (ms.map (·.2)) zs) := by
  obtain ⟨oc, od, dV, kV, doc, pm, an, cdv, ct, osl, rfl, lk, hcd, hD, hK⟩ := F.ex
  rcases hD with ⟨_, rfl⟩ | ⟨e, _⟩
  · rcases hK with e | ⟨Da, rfl, hq⟩
    · exact absurd e hk
    · obtain ⟨mv, hl, rk, hks⟩ := kwd_vals (ms := ms) fun q hm => hq q (hms q hm)
      exact ⟨mv, ⟨fun s us ws X l1 l2 => BindsTo.of_looks fun M => KwChain.looks X hks (h Da doc pm an cdv ct us mv ws l1 hl l2), fun r1 r2 => hrel r1 rk r2⟩⟩
  · exact absurd rfl e
end
theorem PK.imp {X : Cx} {e : List Keyword} {t t' : TA} (h : PK X e t) (k : ∀ σ H Q, t' σ H Q → t σ H Q) : PK X e t' := ⟨fun p pins s σ H Q I q => h.run p pins s σ H Q I (k σ H Q q)⟩
abbrev DKw (X : Cx) (B : List Addr) (kws : List Keyword) (ms : List Mode) (f : FA) : Prop := PK X kws (tDA X.K B ms f)
section
variable {X : Cx} {e : Expr} {es : List Expr} {kws : List Keyword} {m : Mode} {ms ms' : List Mode} {f : FE} {fs fk : FA} {pos p kpos : Pos} {nm : Option Str}
theorem dk_nil : DKw X B [] [] fNil := PK.imp pk_nil fun σ H Q ⟨F, ρ, fp, R, S, hf, k⟩ => k F H [] [] [] (Step.refl S.wf) rfl (fun a h => (by cases h)) List.nodup_nil hf
theorem tDA_cons {K : PySem.W.Frag} {σ : L2.St} {H : Hp} {Q : List V → Hp → Prop} (h : tDA K B (m :: ms) (fCons f fs) σ H Q) : tCons (tD K B m f) (tDA K B ms fs) σ H Q := by
  obtain ⟨F, ρ, fp, R, S, hf, k⟩ := h
  refine ⟨F, ρ, fp, _, S, hf, fun F1 H1 v1 d1 fp1 s1 hv1 o1 n1 hg1 => ?_⟩
  refine ⟨F1, ρ, fp, _, S.step s1 (fun a ha => by cases ha), hg1, fun F2 H2 v2 d2 fp2 s2 hv2 o2 n2 hg2 => ?_⟩
  have t1 := hv1.there
  have nn : ∀ a ∈ fp1, F2 a = none := fun a ha => by
    obtain ⟨o, e, mu⟩ := t1 a ha
    exact s2.out e mu (o1 a ha).2.2 (o1 a ha).2.1 fun z => by cases z
  refine k F2 H2 (v1 :: v2) (d1 :: d2) (fp1 ++ fp2) (s1.trans s2 fun a ha => by cases ha) ⟨fp1, fp2, rfl, hv1.step s2 fun a ha => (o1 a ha).2.2, hv2⟩ (fun a ha => ?_) ?_ hg2
  · rcases List.mem_append.mp ha with z | z
    · exact ⟨(o1 a z).1, nn a z, (o1 a z).2.2⟩
    · exact ⟨.inr (s1.new (o2 a z).2.2 ((o2 a z).1.elim (fun z => by cases z) id)), (o2 a z).2⟩
  · refine List.nodup_append.mpr ⟨n1, n2, fun a ha b hb e => ?_⟩
    subst e
    obtain ⟨o, e, mu⟩ := t1 a ha
    rcases (o2 a hb).1 with z | z
    · cases z
    · rw [e] at z; cases z
theorem dk_cons (h : DE X B e m f) (hr : DKw X B kws ms fk) : DKw X B (⟨nm, e, kpos⟩ :: kws) (m :: ms) (fCons f fk) := PK.imp (pk_cons h hr) fun _ _ _ q => tDA_cons q
/-- f(e, .., k = v, ..) -/
theorem de_callN {k n : Nat} {fa : Addr} {fd : FuncData} {ps ks : List Str} {W : BSpec} {x : Str} {g : List Value → List Value → List Value} {gV : List V → List V → List V} (gD : List D → List D → List D)
    (F : FnOk X.prog X.w X.K X.mg X.base CX0 k fa fd ps (spD X.K m W)) (hr : Room k X.A) (hg : Gl X x) (hm : X.mg x = some (.ref fa)) (hk : PySem.W.keepIn X.K (.ref fa) = true) (hb : KBn X.K fd ps n ks g gV)
    (hgd : ∀ F vs xs zs ys, RL X.K F vs xs → RL X.K F zs ys → RL X.K F (gV vs zs) (gD xs ys)) (ha : DA X B (e :: es) ms fs) (hkw : DKw X B kws ms' fk) (hms : ∀ m ∈ ms, m = .own 0 := by simp) (hms' : ∀ m ∈ ms', m = .own 0 := by simp) (hn : (e :: es).length = n := by rfl) (hn' : kws.length = ks.length := by rfl)
    (hl : ms.length = (e :: es).length := by rfl) (hl' : ms'.length = kws.length := by rfl)
    (hall : (backToKw pos (keywordEach kws X.env)).all (·.1.isSome) = true := by rfl) (hks : (backToKw pos (keywordEach kws X.env)).filterMap (·.1) = ks := by rfl)
    (hdb : (x == ("__debug__" : Str)) = false := by decide) (he : starEach (e :: es) X.env = (false, eval e X.env) :: starEach es X.env := by rfl)
    (hpl : ((backTo pos (starEach (e :: es) X.env)).any (·.1) || (backToKw pos (keywordEach kws X.env)).any (·.1.isNone)) = false := by rfl) :
    DE X B (.Call (.Name x p) (e :: es) kws pos) m (fun ρ R => fs ρ fun xs => fk ρ fun ys => W B (gD xs ys) R) :=
  PE.imp (pe_callN F hr hg hm hk hb pass0 ha hkw hall hks hdb he hpl) fun σ H Q ⟨F, ρ, fp, R, S, hf, k⟩ => by
    have len : ∀ {ms : List Mode} {vs : List V} {ds : List D} {fp : List Addr} {F H : Hp}, ValL X.K B F H ms vs ds fp → vs.length = ms.length := fun {ms vs ds fp F H} h => by
      induction ms generalizing vs ds fp with
      | nil =>
        cases vs with
        | nil => rfl
        | cons v vs => cases h
      | cons m ms ih =>
        cases vs with
        | nil => cases h
        | cons v vs =>
          cases ds with
          | nil => cases h
          | cons d ds =>
            obtain ⟨f1, f2, e, h, t⟩ := h
            rw [List.length_cons, List.length_cons, ih t]
    refine ⟨F, ρ, fp, _, S, hf, fun F1 H1 vs xs fp1 s1 hv o1 n1 hg1 => ⟨F1, ρ, fp, _, S.step s1 (fun a h => by cases h), hg1, fun F2 H2 zs ys fp2 s2 hw o2 n2 hW => ⟨?_, ?_, ?_⟩⟩⟩
    · rw [len hv, hl, hn]
    · rw [len hw, hl', hn']
    · exact call_all s2.wf (hgd F2 _ _ _ _ ((hv.rl0 hms).mono s2.fs) (hw.rl0 hms')) hW ((k.after s1 (A1 := fp1) fun a ha => (o1 a ha).1).after (s2.weak fun a h => (by cases h)) (A1 := []) fun a h => (by cases h))
end
/-! ### tuples of targets in a comprehension -/
section
variable {X : Cx} {x : Str} {pos : Pos}
structure DGsc (X : Cx) (tgs : List Expr) (vs is : List Nat) : Prop where
  ok : ∃ g : TGs, (∀ (s : Shared) (H : Hp) (scope : Scope) (C : Addr) (cl : List (Str × Addr)) (fp : List Addr), (∀ v ∈ vs, ∃ x, X.N[v]? = some x ∧ ∀ C cl, (compEnvC scope cl C X.env).scope.names.lookup x = some .local) → PGs (X.blk s H scope (compEnvC scope cl C X.env) fp) tgs g) ∧
    ∀ (B : List Addr) (F H : Hp) (σ0 σ : L2.St) (ρ ρ' : Env) (fp : List Addr) (ws : List V) (ds : List D), L2.wipe σ vs = L2.wipe σ0 vs → StOk X.K B [] noH noH F H σ ρ fp → RL X.K F ws ds → tgL is ds ρ = some ρ' →
      ∀ Q : L2.St → Hp → Prop, (∀ σ' fp', StOk X.K B [] noH noH F H σ' ρ' fp' → L2.wipe σ' vs = L2.wipe σ0 vs → Q σ' H) → g ws σ H Q
theorem dgsc_nil {vs : List Nat} : DGsc X [] vs [] := ⟨gNil, fun _ _ _ _ _ _ _ => pgs_nil, fun B F H σ0 σ ρ ρ' fp ws ds hw S r e Q k => by
  cases r with
  | nil => cases e; exact ⟨rfl, k σ fp S hw⟩
  | cons h t => cases e⟩
theorem wipe_set {σ : L2.St} {i : Nat} {o : Option V} : ∀ {vs : List Nat}, i ∈ vs → L2.wipe (σ.set i o) vs = L2.wipe σ vs
  | v :: vs, h => by
    show (L2.wipe (σ.set i o) vs).set v none = (L2.wipe σ vs).set v none
    by_cases e : i ∈ vs
    · rw [wipe_set e]
    · have hv : i = v := by rcases List.mem_cons.mp h with z | z; exact z; exact absurd z e
      subst hv
      have comm : ∀ (us : List Nat) (σ : L2.St), i ∉ us → L2.wipe (σ.set i o) us = (L2.wipe σ us).set i o := by
        intro us
        induction us with
        | nil => intro σ _; rfl
        | cons u us ih =>
          intro σ hu
          show (L2.wipe (σ.set i o) us).set u none = ((L2.wipe σ us).set u none).set i o
          rw [ih σ fun z => hu (List.mem_cons_of_mem _ z)]
          exact List.set_comm _ _ fun z => hu (by rw [z]; exact List.mem_cons_self)
      rw [comm vs σ e, List.set_set]
theorem dgsc_cons {vs is : List Nat} {es : List Expr} (i : Nat) (hN : X.N.Nodup) (hi : X.N[i]? = some x) (hv : i ∈ vs) (h : DGsc X es vs is)
    (hs : ∀ (env : PySem.Env), (assignEach (.Name x pos :: es) env).map (·.2) = assign (.Name x pos) env :: (assignEach es env).map (·.2) := by intro _; rfl) : DGsc X (.Name x pos :: es) vs (i :: is) := by
  obtain ⟨g, pg, kg⟩ := h.ok
  refine ⟨gCons (gName i) g, fun s H scope C cl fp hl => ?_, fun B F H σ0 σ ρ ρ' fp ws ds hw S r e Q k => ?_⟩
  · obtain ⟨y, e, hy⟩ := hl i hv
    rw [hi] at e; cases e
    exact pgs_cons (pg_name hN hi (.inl (hy C cl)) (.inr (hy C cl))) (pg s H scope C cl fp hl) (hs _)
  · cases r with
    | nil => cases e
    | cons h t =>
      unfold tgL at e
      split at e
      · rename_i hi'
        obtain ⟨fp', S'⟩ := S.set (n := 0) (f := []) (i := i) ⟨h, rfl⟩ .nil hi' (Nat.zero_le _)
        exact ⟨_, _, rfl, kg B F H σ0 _ _ ρ' fp' _ _ (by rw [wipe_set hv]; exact hw) S' t e Q k⟩
      · cases e
theorem wipe_sub {σ : L2.St} {vs : List Nat} : ∀ {ws : List Nat}, (∀ w ∈ ws, w ∈ vs) → L2.wipe (L2.wipe σ ws) vs = L2.wipe σ vs
  | [], _ => rfl
  | w :: ws, h => by
    show L2.wipe ((L2.wipe σ ws).set w none) vs = _
    rw [wipe_set (h w List.mem_cons_self), wipe_sub fun x hx => h x (List.mem_cons_of_mem _ hx)]
theorem dgc_tup {vs is : List Nat} {es : List Expr} {k : Nat} (hc : X.calm = true) (h : DGsc X es vs is) (hn : ∀ env : PySem.Env, (assignEach es env).length = is.length := by intro _; rfl) (hst : ∀ env : PySem.Env, (assignEach es env).findIdx? (·.1) = none := by intro _; rfl) : DGc X (.Tuple es k pos) vs (tgT is) := by
  obtain ⟨g, pg, kg⟩ := h.ok
  refine ⟨L2.gTup X.K is.length g, fun s H scope C cl fp hl => pg_tup hc (pg s H scope C cl fp hl) (hn _) (hst _), fun B F H σ ρ ρ' fp v d S r e Q k => ?_⟩
  unfold tgT at e
  cases d <;> try (cases e; done)
  obtain ⟨a, ws, rfl, ht, rl⟩ := r.tupI
  refine ⟨a, ws, rfl, tup_sub S.wf ht, by rw [rl.length]; exact tgL_len e, ?_⟩
  exact kg B F H (L2.wipe σ vs) (L2.wipe σ vs) ρ ρ' fp ws _ rfl S rl e Q fun σ' fp' S' hw => k σ' fp' S' (by rw [hw]; exact wipe_sub fun _ h => h)
end
end GK

namespace GK
open PySem PySem.Spec PyProof.Rows L2

/-! ### the law's bag -/
section
variable {K : PySem.W.Frag} {B A : List Addr} {F H : Hp}
theorem bag_upd {b c l : Addr} {ts : List Addr} {cells left left' : List Int} {turn turn' : Int} (w : WF B F H) (eB : B = b :: c :: l :: ts) (ht : ∀ t ∈ ts, ∃ o xs, H t = some (.frz o (.lst xs))) (h1 : H b = some (.lst [.ref c, .ref l, .int turn])) (h2 : H c = some (.lst (cells.map V.int)))
    (h3 : H l = some (.lst (left.map V.int))) (n1 : b ≠ c) (n2 : b ≠ l) (n3 : c ≠ l) (l0 : 0 < cells.length) (l63 : cells.length ≤ 63) {H' : Hp} (hs : ∀ a, a ≠ b → a ≠ l → H' a = H a) (k1 : H' b = some (.lst [.ref c, .ref l, .int turn'])) (t0 : 0 ≤ turn')
    (k3 : H' l = some (.lst (left'.map V.int))) (le : left'.length = cells.length) : Step B A F H F H' := by
  have out : ∀ a, a ∉ B → H' a = H a := fun a ha => hs a (fun z => ha (by rw [eB, z]; simp)) fun z => ha (by rw [eB, z]; simp)
  refine ⟨fun a o ha e => by rw [out a ha]; exact e, fun _ _ h => h, fun _ _ h => .inl h, ⟨fun a u e => ?_, fun a o u ha e => w.lock a o u ha (by rw [← out a ha]; exact e), .inr ⟨b, c, l, ts, cells, left', turn', eB, fun t hm => ?_, k1, by rw [hs c n1.symm n3]; exact h2, k3, n1, n2, n3, t0, l0, l63, le⟩⟩⟩
  · obtain ⟨hb, x, ex, er⟩ := rdH_some (w.sub a u e)
    exact rdH_of hb (by rw [out a hb]; exact ex) er
  · obtain ⟨o, xs, e⟩ := ht t hm
    refine ⟨o, xs, ?_⟩
    rw [hs t (fun z => ?_) fun z => ?_]
    · exact e
    · subst z; rw [h1] at e; cases e
    · subst z; rw [h3] at e; cases e
/-- _law_draw(bag, size): some number from 0 to size - 1 -/
def wDraw : BSpec := fun B ds R => ∃ b size, B.head? = some b ∧ ds = [.raw (.ref b), .int size] ∧ 0 < size ∧ size.natAbs.log2 < 9000 ∧ ∀ r : Int, 0 ≤ r → r < size → R (.int r)
theorem atI_ints {ns : List Int} {i : Int} (h0 : 0 ≤ i) (h1 : i < ns.length) : ∃ n, atI (ns.map V.int) i = some (.int n) := by
  have e : i.toNat < ns.length := by omega
  refine ⟨ns[i.toNat], ?_⟩
  unfold atI ixN
  rw [if_pos h0, if_pos (by rw [List.length_map]; exact h1)]
  show (ns.map V.int)[i.toNat]? = _
  rw [List.getElem?_map, List.getElem?_eq_getElem e]; rfl
theorem atI_at {ns : List Int} {i : Int} {v : V} (h : atI (ns.map V.int) i = some v) (h0 : 0 ≤ i) : ∃ n k, v = .int n ∧ ixN (ns.map V.int).length i = some k ∧ k < ns.length := by
  unfold atI at h
  cases q : ixN (ns.map V.int).length i with
  | none => rw [q] at h; cases h
  | some k =>
    rw [q] at h
    have h : (ns.map V.int)[k]? = some v := h
    rw [List.getElem?_map] at h
    cases e : ns[k]? with
    | none => rw [e] at h; cases h
    | some n =>
      rw [e] at h
      cases h
      exact ⟨n, k, rfl, rfl, (List.getElem?_eq_some_iff.mp e).1⟩
end
end GK

namespace GK
open PySem PySem.Spec PyProof.Rows L2
/-- a comprehension's block, its names given as they stand -/
theorem blk_of (N : List Str) (sc : Scope) {scope : Scope} {own : List (Str × Nat)} (h0 : scope.kind = .function) (h1 : ∀ y ∈ scope.names, scope.names.lookup y.1 = some y.2) (h2 : ∀ p ∈ own, N[p.2]? = some p.1)
    (h3 : ∀ y ∈ scope.names, y.2 = .free → sc.names.lookup y.1 = some .cell ∨ sc.names.lookup y.1 = some .free) (h4 : ∀ y ∈ scope.names, y.2 = .local ∨ y.2 = .cell → y.1 ∈ own.map (·.1) ∨ y.1 ∉ N) : BlkOk N sc scope own := ⟨h0, h1, h2, h3, h4⟩
theorem cut_ints (ns : List Int) (lo hi : Option Int) : ∃ ms : List Int, cutV (ns.map V.int) lo hi = ms.map V.int ∧ ms.length ≤ ns.length := by
  refine ⟨(ns.drop (HT.sIx ns.length 0 lo)).take (HT.sIx ns.length ns.length hi - HT.sIx ns.length 0 lo), ?_, ?_⟩
  · unfold cutV
    rw [List.length_map, List.map_take, List.map_drop]
  · rw [List.length_take, List.length_drop]; omega
/-- _law_bag(script): two new lists of as many numbers, one at least, and the turn -/
def spBag (K : PySem.W.Frag) : Sp := fun vs H Q _ => ∃ (a : Addr) (ns : List Int), vs = [.ref a] ∧ SqL K H a (ns.map V.int) ∧ ns.length ≤ 63 ∧
  ∀ (b c l : Addr) (cells left : List Int) (H' : Hp), H b = none → b ≠ c → b ≠ l → c ≠ l → 0 < cells.length → cells.length ≤ 63 → left.length = cells.length → (∀ x o, H x = some o → H' x = some o) → (∀ x o u, H' x = some (.frz o u) → H x = some (.frz o u)) →
    H' b = some (.lst [.ref c, .ref l, .int 0]) → H' c = some (.lst (cells.map V.int)) → H' l = some (.lst (left.map V.int)) → Q (.ref b) H'
/-- what stands, and nothing new is locked -/
def Ext (H H' : Hp) : Prop := (∀ x o, H x = some o → H' x = some o) ∧ ∀ x o u, H' x = some (.frz o u) → H x = some (.frz o u)
theorem Ext.refl {H : Hp} : Ext H H := ⟨fun _ _ h => h, fun _ _ _ h => h⟩
theorem Ext.put {H H' : Hp} (e : Ext H H') {p : Addr} {xs : List V} (hp : H p = none) : Ext H (upd H' p (.lst xs)) :=
  ⟨fun x o h => by rw [upd_ne (ne_of_none h hp)]; exact e.1 x o h, fun x o u h => by
    by_cases c : x = p
    · subst c; rw [upd_same] at h; cases h
    · rw [upd_ne c] at h; exact e.2 x o u h⟩
theorem Ext.none {H H' : Hp} (e : Ext H H') {p : Addr} (h : H' p = none) : H p = none := by
  cases q : H p with
  | none => rfl
  | some o => rw [e.1 p o q] at h; cases h
theorem SqL.ext {K : PySem.W.Frag} {H H' : Hp} (e : ∀ x o, H x = some o → H' x = some o) {a : Addr} {xs : List V} (h : SqL K H a xs) : SqL K H' a xs := by
  rcases h with h | h
  · rcases h with h | ⟨o, h⟩
    · exact .inl (.inl (e _ _ h))
    · exact .inl (.inr ⟨o, e _ _ h⟩)
  · exact .inr h
/-! ### the law itself: behind its first line the bag stands -/
def isLl : Option HO → Bool
  | some (.frz _ (.lst _)) => true
  | _ => false
theorem isLl_inv {o : Option HO} (h : isLl o = true) : ∃ ob xs, o = some (.frz ob (.lst xs)) := by
  unfold isLl at h
  split at h
  · exact ⟨_, _, rfl⟩
  · cases h
def lawEnds : DEnds := { nx := fun _ => False, rt := fun d _ => d = .bl true }
/-- the rest of the law, for each place of the bag -/
theorem law_rest {X : Cx} {rest : List Stmt} {g : List Addr → FS} (h : ∀ B, DSs X B rest 0 (.own 0) (g B)) : PSs X rest (fun D σ H => ∀ N, (∀ p, N ≤ p → H p = Option.none) → ∃ B, tDS X.K B 0 (.own 0) (g B) D σ H) :=
  ⟨fun pins s σ H D I q => by
    obtain ⟨B, q⟩ := q s.heap.objs.size fun p hp => I.hok.fresh hp
    exact (h B).run pins s σ H D I q⟩
theorem law_start {K : PySem.W.Frag} {g : List Addr → FS} {H H' : Hp} {a b c l : Addr} {cells left : List Int} {n N : Nat} {D : Ends} (hO : Only H) (hN : ∀ p, N ≤ p → H' p = Option.none) (nb : H b = Option.none) (n1 : b ≠ c) (n2 : b ≠ l) (n3 : c ≠ l) (l0 : 0 < cells.length) (l63 : cells.length ≤ 63) (le : left.length = cells.length)
    (hlk : ∀ x o u, H' x = some (.frz o u) → H x = some (.frz o u)) (h1 : H' b = some (.lst [.ref c, .ref l, .int 0])) (h2 : H' c = some (.lst (cells.map V.int))) (h3 : H' l = some (.lst (left.map V.int)))
    (hg : ∀ B, B.head? = some b → g B lawEnds (some (0, .raw (.ref a)) :: some (0, .raw (.ref b)) :: List.replicate n Option.none)) (hD : ∀ H2, D.rt (.bl true) H2) :
    ∃ B, tDS K B 0 (.own 0) (g B) D (some (.ref a) :: some (.ref b) :: List.replicate n Option.none) H' := by
  have hts : ∀ t ∈ (List.range N).filter (fun p => isLl (H' p)), ∃ o xs, H' t = some (.frz o (.lst xs)) := fun t ht => isLl_inv (List.mem_filter.mp ht).2
  have hlock : ∀ x o u, x ∉ b :: c :: l :: (List.range N).filter (fun p => isLl (H' p)) → H' x = some (.frz o u) → isDct u := fun x o u hx e => by
    exfalso
    have e0 := hlk x o u e
    rcases hO x with z | ⟨o', xs, z⟩
    · rw [z] at e0; cases e0
    · rw [z] at e0
      cases e0
      have hxN : x < N := by
        apply Nat.lt_of_not_le
        intro hle
        rw [hN x hle] at e; cases e
      exact hx (by
        refine List.mem_cons_of_mem _ (List.mem_cons_of_mem _ (List.mem_cons_of_mem _ (List.mem_filter.mpr ⟨List.mem_range.mpr hxN, ?_⟩)))
        rw [e]; rfl)
  refine ⟨b :: c :: l :: (List.range N).filter (fun p => isLl (H' p)), [], noH, noH, noH, some (0, .raw (.ref a)) :: some (0, .raw (.ref b)) :: List.replicate n Option.none, [], lawEnds, rfl,
    ⟨⟨fun _ _ e => (by cases e), hlock, .inr ⟨b, c, l, _, cells, left, 0, rfl, hts, h1, h2, h3, n1, n2, n3, Int.le_refl 0, l0, l63, le⟩⟩, ⟨[], [], rfl, ⟨.raw _, rfl⟩, [], [], rfl, ⟨.raw _, rfl⟩, ownE_none n⟩, List.nodup_nil, fun a h => (by cases h), fun _ _ e => (by cases e), fun _ _ => rfl, fun _ _ e => (by cases e), fun _ _ e => (by cases e), fun i v e => (by simp at e)⟩, hg _ rfl, ?_⟩
  refine ⟨fun F H σ ρ fp S h => h.elim, fun F H2 σ ρ fp v d f S hv ap h => ?_, fun F H σ ρ fp S h => h.elim, fun F H σ ρ fp S h => h.elim⟩
  have h : d = .bl true := h
  subst h
  obtain ⟨rfl, _⟩ := hv.bl
  exact hD _
/-- the law's promise -/
def spLaw (K : PySem.W.Frag) : Sp := fun vs H Q _ => ∃ (a : Addr) (ns : List Int), vs = [.ref a] ∧ SqL K H a (ns.map V.int) ∧ ns.length ≤ 63 ∧ Only H ∧ ∀ H', Q (.bl true) H'
end GK

namespace GK
open PySem PySem.Spec PyProof.Rows L2

theorem _root_.L2.Room.u {k : Nat} {A : Around} (hr : Room k A) (n : Nat) (h : n ≤ 200 := by decide) : A.units + n < cLine := by have := hr.un; omega
/-- a def that keeps its promise, by its name -/
structure Cal (P : Program) (w : World) (K : PySem.W.Frag) (mg : Str → Option Value) (base : Heap) (x : Str) (k : Nat) (ps : List Str) (m : Mode) (dd : List D) (W : BSpec) : Prop where
  ex : ∃ (f : Addr) (fd : FuncData) (ds : List Value) (dvs : List V), FnOk P w K mg base CX0 k f fd ps (spD K m W) ∧ mg x = some (.ref f) ∧ PySem.W.keepIn K (.ref f) = true ∧ Binds K fd ps ds ∧ Vals dvs ds ∧ Dflt K dvs dd
/-- a method that changes nothing -/
structure CalM (P : Program) (w : World) (K : PySem.W.Frag) (mg : Str → Option Value) (base : Heap) (C : Addr) (mt : Str) (k : Nat) (ps : List Str) (m : Mode) (dd : List D) (W : BSpec) : Prop where
  cl : Cls K C
  ex : ∃ (f : Addr) (fd : FuncData) (ds : List Value) (dvs : List V), FnOk P w K mg base CX0 k f fd ps (spD K m W) ∧ Meth K C mt f ∧ Binds K fd ps ds ∧ Vals dvs ds ∧ Dflt K dvs dd
/-- a class, by its __init__ -/
structure CalK (P : Program) (w : World) (K : PySem.W.Frag) (mg : Str → Option Value) (base : Heap) (x : Str) (C : Addr) (k n : Nat) (ps : List Str) (m : Mode) (dd : List D) (W : FSpecM) : Prop where
  ex : ∃ (f : Addr) (fd : FuncData) (ds : List Value) (dvs : List V), FnOk P w K mg base CX0 k f fd ps (spM K (n + 1) m W) ∧ Mk K C f ∧ mg x = some (.ref C) ∧ Binds K fd ps ds ∧ Vals dvs ds ∧ Dflt K dvs dd
section
variable {X : Cx} {B : List Addr} {k k' n : Nat} {C : Addr} {ps : List Str} {x : Str} {p pos apos : Pos} {e o : Expr} {es : List Expr} {m : Mode} {ms : List Mode} {fs : FA} {fo : FE} {W : BSpec} {dd : List D}
theorem de_C (c : Cal X.prog X.w X.K X.mg X.base x k ps m dd W) (hr : Room k' X.A) (ha : DA X B (e :: es) ms fs) (hk : k ≤ k' := by decide) (hg : Gl X x := by rfl) (hms : ∀ m ∈ ms, m = .own 0 := by simp)
    (hdb : (x == ("__debug__" : Str)) = false := by decide) (he : starEach (e :: es) X.env = (false, eval e X.env) :: starEach es X.env := by rfl) (hpl : (backTo pos (starEach es X.env)).any (·.1) = false := by rfl) :
    DE X B (.Call (.Name x p) (e :: es) [] pos) m (fArgs (fun xs R => W B (xs ++ dd) R) fs) := by
  obtain ⟨f, fd, ds, dvs, F, hm, kp, hb, hd, hdd⟩ := c.ex
  exact de_call F (hr.mono hk) hg hm kp hb hd hdd ha hms hdb he hpl
theorem de_CR (c : Cal X.prog X.w X.K X.mg X.base x k ps (.own n) dd W) (hr : Room k' X.A) (ha : DA X B (e :: es) ms fs) (hk : k ≤ k' := by decide) (hg : Gl X x := by rfl)
    (hdb : (x == ("__debug__" : Str)) = false := by decide) (he : starEach (e :: es) X.env = (false, eval e X.env) :: starEach es X.env := by rfl) (hpl : (backTo pos (starEach es X.env)).any (·.1) = false := by rfl) :
    DE X B (.Call (.Name x p) (e :: es) [] pos) (.own n) (fArgs (fun xs R => W B (xs ++ dd) fun d => flatN n d = true ∧ R d) fs) := by
  obtain ⟨f, fd, ds, dvs, F, hm, kp, hb, hd, hdd⟩ := c.ex
  exact de_callR F (hr.mono hk) hg hm kp hb hd hdd ha hdb he hpl
theorem de_C0 (c : Cal X.prog X.w X.K X.mg X.base x k ps m dd W) (hr : Room k' X.A) (hk : k ≤ k' := by decide) (hg : Gl X x := by rfl) (hdb : (x == ("__debug__" : Str)) = false := by decide) : DE X B (.Call (.Name x p) [] [] pos) m (fun _ R => W B dd R) := by
  obtain ⟨f, fd, ds, dvs, F, hm, kp, hb, hd, hdd⟩ := c.ex
  exact de_call0 F (hr.mono hk) hg hm kp hb hd hdd hdb
theorem de_Cm {mt : Str} (pl : Sem Bool) (c : CalM X.prog X.w X.K X.mg X.base C mt k ps m dd W) (hr : Room k' X.A) (ho : DE X B o (.own 0) fo) (ha : DA X B (e :: es) ms fs) (hk : k ≤ k' := by decide) (hms : ∀ m ∈ ms, m = .own 0 := by simp)
    (hst : starEach (e :: es) X.env = (false, eval e X.env) :: starEach es X.env := by rfl) (hpl : (backTo pos (starEach es X.env)).any (·.1) = false := by rfl)
    (ht : eval (.Call (.Attribute o mt apos) (e :: es) [] pos) X.env = (do
      let ov ← eval o X.env
      standAt apos.atName
      let (f, first) ← holding [ov] (getMethod ov mt pl)
      callWith pos f first (backTo pos (starEach (e :: es) X.env)) (backToKw pos (keywordEach [] X.env))) := by rfl) :
    DE X B (.Call (.Attribute o mt apos) (e :: es) [] pos) m (fun ρ R => fo ρ fun x => isObjD C mt x ∧ fs ρ fun xs => W B (x :: (xs ++ dd)) R) := by
  obtain ⟨f, fd, ds, dvs, F, hm, hb, hd, hdd⟩ := c.ex
  exact de_meth ho c.cl hm F (hr.mono hk) hb hd hdd ha hms hst hpl ht
theorem de_Cm0 {mt : Str} (pl : Sem Bool) (c : CalM X.prog X.w X.K X.mg X.base C mt k ps m dd W) (hr : Room k' X.A) (ho : DE X B o (.own 0) fo) (hk : k ≤ k' := by decide)
    (ht : eval (.Call (.Attribute o mt apos) [] [] pos) X.env = (do
      let ov ← eval o X.env
      standAt apos.atName
      let (f, first) ← holding [ov] (getMethod ov mt pl)
      callWith pos f first (backTo pos (starEach [] X.env)) (backToKw pos (keywordEach [] X.env))) := by rfl) :
    DE X B (.Call (.Attribute o mt apos) [] [] pos) m (fun ρ R => fo ρ fun x => isObjD C mt x ∧ W B (x :: dd) R) := by
  obtain ⟨f, fd, ds, dvs, F, hm, hb, hd, hdd⟩ := c.ex
  exact de_meth0 ho c.cl hm F (hr.mono hk) hb hd hdd ht
theorem de_Ck {W : FSpecM} (c : CalK X.prog X.w X.K X.mg X.base x C k n ps m dd W) (hr : Room k' X.A) (ha : DA X B (e :: es) ms fs) (hk : k + 1 ≤ k' := by decide) (hg : Gl X x := by rfl) (hms : ∀ m ∈ ms, m = .own 0 := by simp)
    (hdb : (x == ("__debug__" : Str)) = false := by decide) (he : starEach (e :: es) X.env = (false, eval e X.env) :: starEach es X.env := by rfl) (hpl : (backTo pos (starEach es X.env)).any (·.1) = false := by rfl) :
    DE X B (.Call (.Name x p) (e :: es) [] pos) (.own (n + 1)) (fArgs (fun xs R => W (.obj C []) (xs ++ dd) fun d s => d = .non ∧ R s) fs) := by
  obtain ⟨f, fd, ds, dvs, F, M, hm, hb, hd, hdd⟩ := c.ex
  exact de_make M F (hr.mono hk) hg hm hb hd hdd ha hms hdb he hpl
theorem de_Ck0 {W : FSpecM} (c : CalK X.prog X.w X.K X.mg X.base x C k n ps m dd W) (hr : Room k' X.A) (hk : k + 1 ≤ k' := by decide) (hg : Gl X x := by rfl) (hdb : (x == ("__debug__" : Str)) = false := by decide) :
    DE X B (.Call (.Name x p) [] [] pos) (.own (n + 1)) (fun _ R => W (.obj C []) dd fun d s => d = .non ∧ R s) := by
  obtain ⟨f, fd, ds, dvs, F, M, hm, hb, hd, hdd⟩ := c.ex
  exact de_make0 M F (hr.mono hk) hg hm hb hd hdd hdb
end
/-! ### stepping through data -/
theorem fVar_go {i n : Nat} {ρ : Env} {d : D} {R : D → Prop} (e : slot ρ i = some (n, d)) (h : R d) : fVar i n ρ R := by
  unfold fVar; rw [e]; exact ⟨rfl, h⟩
end GK

namespace GK
open PySem PySem.Spec PyProof.Rows L2
abbrev Hol (X : Cx) (scope : Scope) (own : List (Str × Nat)) : Prop := ∀ v ∈ own.map (·.2), ∃ x, X.N[v]? = some x ∧ ∀ C cl, (compEnvC scope cl C X.env).scope.names.lookup x = some .local
theorem hol_nil {X : Cx} {scope : Scope} : Hol X scope [] := fun v h => by cases h
theorem hol_cons {X : Cx} {scope : Scope} {own : List (Str × Nat)} {y x : Str} {i : Nat} (h1 : X.N[i]? = some x) (h2 : ∀ C cl, (compEnvC scope cl C X.env).scope.names.lookup x = some .local) (t : Hol X scope own) : Hol X scope ((y, i) :: own) := fun v h => by
  rcases List.mem_cons.mp h with e | e
  · rw [e]; exact ⟨x, h1, h2⟩
  · exact t v e
/-- a def called with keywords -/
structure CalN (P : Program) (w : World) (K : PySem.W.Frag) (mg : Str → Option Value) (base : Heap) (x : Str) (k : Nat) (ps : List Str) (m : Mode) (n : Nat) (ks : List Str) (gD : List D → List D → List D) (W : BSpec) : Prop where
  ex : ∃ (f : Addr) (fd : FuncData) (g : List Value → List Value → List Value) (gV : List V → List V → List V), FnOk P w K mg base CX0 k f fd ps (spD K m W) ∧ mg x = some (.ref f) ∧ PySem.W.keepIn K (.ref f) = true ∧ KBn K fd ps n ks g gV ∧
    ∀ F vs xs zs ys, RL K F vs xs → RL K F zs ys → RL K F (gV vs zs) (gD xs ys)
theorem de_CN {X : Cx} {B : List Addr} {k k' n : Nat} {ps ks : List Str} {x : Str} {p pos : Pos} {e : Expr} {es : List Expr} {kws : List Keyword} {m : Mode} {ms ms' : List Mode} {fs fk : FA} {W : BSpec} {gD : List D → List D → List D} (c : CalN X.prog X.w X.K X.mg X.base x k ps m n ks gD W) (hr : Room k' X.A)
    (ha : DA X B (e :: es) ms fs) (hkw : DKw X B kws ms' fk) (hk : k ≤ k' := by decide) (hg : Gl X x := by rfl) (hms : ∀ m ∈ ms, m = .own 0 := by simp) (hms' : ∀ m ∈ ms', m = .own 0 := by simp) (hn : (e :: es).length = n := by rfl) (hn' : kws.length = ks.length := by rfl)
    (hl : ms.length = (e :: es).length := by rfl) (hl' : ms'.length = kws.length := by rfl)
    (hall : (backToKw pos (keywordEach kws X.env)).all (·.1.isSome) = true := by rfl) (hks : (backToKw pos (keywordEach kws X.env)).filterMap (·.1) = ks := by rfl)
    (hdb : (x == ("__debug__" : Str)) = false := by decide) (he : starEach (e :: es) X.env = (false, eval e X.env) :: starEach es X.env := by rfl)
    (hpl : ((backTo pos (starEach (e :: es) X.env)).any (·.1) || (backToKw pos (keywordEach kws X.env)).any (·.1.isNone)) = false := by rfl) :
    DE X B (.Call (.Name x p) (e :: es) kws pos) m (fun ρ R => fs ρ fun xs => fk ρ fun ys => W B (gD xs ys) R) := by
  obtain ⟨f, fd, g, gV, F, hm, kp, hb, hgd⟩ := c.ex
  exact de_callN gD F (hr.mono hk) hg hm kp hb hgd ha hkw hms hms' hn hn' hl hl' hall hks hdb he hpl
end GK

namespace GK
open PySem PySem.Spec PyProof.Rows L2

/-! ### loops over data -/
theorem forD_go {t : D → Env → Option Env} {gb : FS} {E : DEnds} (I : List D → Env → Prop) (hs : ∀ x r ρ, I (x :: r) ρ → ∀ N : Env → Prop, (∀ ρ2, I r ρ2 → N ρ2) → ∃ ρ', t x ρ = some ρ' ∧ gb { E with nx := N, ct := N, bk := E.nx } ρ') (hd : ∀ ρ, I [] ρ → E.nx ρ) :
    ∀ xs ρ, I xs ρ → forD t gb xs E ρ
  | [], ρ, h => hd ρ h
  | x :: r, ρ, h => hs x r ρ h _ fun ρ2 h2 => forD_go I hs hd r ρ2 h2
theorem compD_go {t : D → Env → Option Env} {fc : FT} {fe : FE} {ρ : Env} {R : D → Prop} (I : List D → List D → Prop)
    (hs : ∀ x r acc, I (x :: r) acc → ∀ N : List D → Prop, (∀ a, I r a → N a) → ∃ ρ', t x ρ = some ρ' ∧ fc ρ' fun b => if b = true then fe ρ' fun y => acc.length < sizeLine ∧ N (acc ++ [y]) else N acc) (hd : ∀ acc, I [] acc → R (.lst acc)) :
    ∀ xs acc, I xs acc → compD t fc fe ρ xs acc R
  | [], acc, h => hd acc h
  | x :: r, acc, h => hs x r acc h _ fun a h2 => compD_go I hs hd r a h2
/-- each item answers by itself -/
theorem compD_map {Z : Type} (ι : Z → D) (φ : Z → Option D) {t : D → Env → Option Env} {fc : FT} {fe : FE} {ρ : Env} {R : D → Prop} {xs : List Z} (hs : ∀ x ∈ xs, ∀ N : Option D → Prop, N (φ x) → ∃ ρ', t (ι x) ρ = some ρ' ∧ fc ρ' fun b => if b = true then fe ρ' fun y => N (some y) else N none) (hl : xs.length ≤ sizeLine)
    (hR : R (.lst (xs.filterMap φ))) : compD t fc fe ρ (xs.map ι) [] R := by
  have key : ∀ (ys zs : List Z), zs ++ ys = xs → compD t fc fe ρ (ys.map ι) (zs.filterMap φ) R := by
    intro ys
    induction ys with
    | nil =>
      intro zs e
      rw [List.append_nil] at e
      subst e
      exact hR
    | cons x r ih =>
      intro zs e
      have hx : x ∈ xs := by rw [← e]; simp
      have hlen : (zs.filterMap φ).length < sizeLine := by
        have h1 := List.length_filterMap_le φ zs
        have h2 := congrArg List.length e
        rw [List.length_append, List.length_cons] at h2
        omega
      have nxt := ih (zs ++ [x]) (by rw [← e]; simp)
      rw [List.filterMap_append] at nxt
      exact hs x hx (fun o => match o with
        | some y => (zs.filterMap φ).length < sizeLine ∧ compD t fc fe ρ (r.map ι) (zs.filterMap φ ++ [y]) R
        | none => compD t fc fe ρ (r.map ι) (zs.filterMap φ) R) (by
          cases q : φ x with
          | none =>
            have e1 : [x].filterMap φ = [] := by simp [q]
            rw [e1, List.append_nil] at nxt
            exact nxt
          | some y =>
            have e1 : [x].filterMap φ = [y] := by simp [q]
            rw [e1] at nxt
            exact ⟨hlen, nxt⟩)
  exact key xs [] rfl
theorem compDD_map {Z : Type} (ι : Z → D) (step : D → Z → Option D) {t : D → Env → Option Env} {fc : FT} {fk fv : FE} {ρ : Env} {R : D → Prop} {xs : List Z} {acc : D} (hs : ∀ x ∈ xs, ∀ a : D, ∀ N : D → Prop, (∀ a', step a x = some a' → N a') → ∃ ρ', t (ι x) ρ = some ρ' ∧ fc ρ' fun b => if b = true then fk ρ' fun k => fv ρ' fun v => ∃ a', putDD a k v = some a' ∧ N a' else N a)
    (last : D) (hf : xs.foldlM step acc = some last) (hR : R last) : compDD t fc fk fv ρ (xs.map ι) acc R := by
  induction xs generalizing acc with
  | nil =>
    have e : acc = last := Option.some.inj hf
    subst e
    exact hR
  | cons x r ih =>
    rw [List.foldlM_cons] at hf
    cases q : step acc x with
    | none => rw [q] at hf; cases hf
    | some a' =>
      rw [q] at hf
      exact hs x List.mem_cons_self acc (fun a => compDD t fc fk fv ρ (r.map ι) a R) fun a2 e2 => by
        rw [q] at e2
        cases e2
        exact ih (fun y hy => hs y (List.mem_cons_of_mem _ hy)) hf
/-- .. from any state on -/
theorem compDD_go {t : D → Env → Option Env} {fc : FT} {fk fv : FE} {ρ : Env} {R : D → Prop} (I : List D → D → Prop)
    (hs : ∀ x r acc, I (x :: r) acc → ∀ N : D → Prop, (∀ a, I r a → N a) → ∃ ρ', t x ρ = some ρ' ∧ fc ρ' fun b => if b = true then fk ρ' fun k => fv ρ' fun v => ∃ a', putDD acc k v = some a' ∧ N a' else N acc) (hd : ∀ acc, I [] acc → R acc) :
    ∀ xs acc, I xs acc → compDD t fc fk fv ρ xs acc R
  | [], acc, h => hd acc h
  | x :: r, acc, h => hs x r acc h _ fun a h2 => compDD_go I hs hd r a h2
/-! ### small steps -/
theorem gIsi_go {K : PySem.W.Frag} {d : D} {a n : String} {b : Bool} {R : D → Prop} (ht : tyD d = some (.type a)) (hk : kitB a n = some b) (hn : ∀ C es, d ≠ .obj C es) (h : R (.bl b)) : gIsi K [d, .raw (.ty n)] R :=
  ⟨_, _, b, ht, rfl, kit_ty hk, fun C es e => absurd e (hn C es), h⟩
theorem gFld_go {C : Addr} {f : Str} {es : List (Str × D)} {d : D} {R : D → Prop} (h : es.lookup f = some d) (q : R d) : gFld C f (.obj C es) R := ⟨rfl, d, h, q⟩
theorem gNotV_bl {b : Bool} {R : D → Prop} : gNotV (.bl b) R = R (.bl (!b)) := rfl
theorem gEqA_int {n : Bool} {i j : Int} {R : D → Prop} : gEqA n (.int i) (.int j) R = R (.bl (n ^^ decide (i = j))) := rfl
theorem gEqA_str {n : Bool} {i j : Str} {R : D → Prop} : gEqA n (.str i) (.str j) R = R (.bl (n ^^ decide (i = j))) := rfl
theorem gEqA_bl {n : Bool} {i j : Bool} {R : D → Prop} : gEqA n (.bl i) (.bl j) R = R (.bl (n ^^ decide (i = j))) := rfl
theorem bOf_bl {b : Bool} {R : Bool → Prop} : bOf R (.bl b) = R b := rfl
theorem g2I_int {c : Int → Int → Prop} {h : Int → Int → D} {i j : Int} {R : D → Prop} : g2I c h (.int i) (.int j) R = (c i j ∧ R (h i j)) := rfl
theorem g2I0_int {h : Int → Int → D} {i j : Int} {R : D → Prop} : g2I0 h (.int i) (.int j) R = R (h i j) := rfl
theorem g1I_int {h : Int → D} {i : Int} {R : D → Prop} : g1I h (.int i) R = R (h i) := rfl
theorem gLen_lst {ds : List D} {R : D → Prop} : gLen [.lst ds] R = R (.int ds.length) := rfl
theorem gLen_tup {ds : List D} {R : D → Prop} : gLen [.tup ds] R = R (.int ds.length) := rfl
theorem gInt_int {i : Int} {R : D → Prop} : gInt [.int i] R = R (.int i) := rfl
theorem gMax2_int {i j : Int} {R : D → Prop} : gMax2 [.int i, .int j] R = R (.int (if j > i then j else i)) := rfl
theorem gMin2_int {i j : Int} {R : D → Prop} : gMin2 [.int i, .int j] R = R (.int (if j < i then j else i)) := rfl
theorem gIsN_non {n : Bool} {R : D → Prop} : gIsN n .non .non R = R (.bl (!n)) := rfl
theorem gIsN_obj {n : Bool} {C : Addr} {es : List (Str × D)} {R : D → Prop} : gIsN n (.obj C es) .non R = R (.bl n) := rfl
theorem gIsN_dT {n : Bool} {es : List (List Key × D)} {R : D → Prop} : gIsN n (.dT es) .non R = R (.bl n) := rfl
theorem gIsN_dK {n : Bool} {es : List (Key × D)} {R : D → Prop} : gIsN n (.dK es) .non R = R (.bl n) := rfl
theorem gIsN_int {n : Bool} {i : Int} {R : D → Prop} : gIsN n (.int i) .non R = R (.bl n) := rfl
theorem xsOf_lst {xs : List D} {R : List D → Prop} : xsOf R (.lst xs) = R xs := rfl
theorem tsOf_tup {xs : List D} {R : List D → Prop} : tsOf R (.tup xs) = R xs := rfl
theorem atI_0 {α : Type} {a : α} {r : List α} : atI (a :: r) 0 = some a := by
  unfold atI ixN
  rw [if_pos (by decide), if_pos (by rw [List.length_cons]; omega)]; rfl
theorem atI_1 {α : Type} {a b : α} {r : List α} : atI (a :: b :: r) 1 = some b := by
  unfold atI ixN
  rw [if_pos (by decide), if_pos (by rw [List.length_cons, List.length_cons]; omega)]; rfl
theorem atI_2 {α : Type} {a b c : α} {r : List α} : atI (a :: b :: c :: r) 2 = some c := by
  unfold atI ixN
  rw [if_pos (by decide), if_pos (by rw [List.length_cons, List.length_cons, List.length_cons]; omega)]; rfl
theorem ex_some {α : Type} {a : α} {R : α → Prop} : (∃ d, some a = some d ∧ R d) = R a := by
  apply propext
  exact ⟨fun ⟨d, e, h⟩ => by cases e; exact h, fun h => ⟨a, rfl, h⟩⟩
theorem gIx_t0 {a : D} {r : List D} {R : D → Prop} : gIx (.tup (a :: r)) (.int 0) R = R a := by
  show (∃ d, atI (a :: r) 0 = some d ∧ R d) = R a
  rw [atI_0]; exact ex_some
theorem gIx_t1 {a b : D} {r : List D} {R : D → Prop} : gIx (.tup (a :: b :: r)) (.int 1) R = R b := by
  show (∃ d, atI (a :: b :: r) 1 = some d ∧ R d) = R b
  rw [atI_1]; exact ex_some
theorem gIx_l0 {a : D} {r : List D} {R : D → Prop} : gIx (.lst (a :: r)) (.int 0) R = R a := by
  show (∃ d, atI (a :: r) 0 = some d ∧ R d) = R a
  rw [atI_0]; exact ex_some
theorem gIx_l1 {a b : D} {r : List D} {R : D → Prop} : gIx (.lst (a :: b :: r)) (.int 1) R = R b := by
  show (∃ d, atI (a :: b :: r) 1 = some d ∧ R d) = R b
  rw [atI_1]; exact ex_some
theorem gIx_l2 {a b c : D} {r : List D} {R : D → Prop} : gIx (.lst (a :: b :: c :: r)) (.int 2) R = R c := by
  show (∃ d, atI (a :: b :: c :: r) 2 = some d ∧ R d) = R c
  rw [atI_2]; exact ex_some
/-- an item of a list by its number -/
theorem gIx_nat {ds : List D} {k : Nat} {d : D} {R : D → Prop} (h : ds[k]? = some d) (q : R d) : gIx (.lst ds) (.int (k : Int)) R := by
  refine ⟨d, ?_, q⟩
  have hk := (List.getElem?_eq_some_iff.mp h).1
  unfold atI ixN
  rw [if_pos (by omega), if_pos (by omega)]
  exact h
theorem tgN_go {i : Nat} {d : D} {ρ : Env} (h : i < ρ.length) : tgN i d ρ = some (ρ.set i (some (0, d))) := if_pos h
theorem fVar_0 {n k : Nat} {d : D} {r : Env} {R : D → Prop} : fVar 0 n (some (k, d) :: r) R = (k = n ∧ R d) := rfl
theorem fVar_s {i n : Nat} {o : Option (Nat × D)} {r : Env} {R : D → Prop} : fVar (i + 1) n (o :: r) R = fVar i n r R := rfl
theorem wipe_nil {ρ : Env} : wipeE ρ [] = ρ := rfl
theorem wipe_cons {ρ : Env} {v : Nat} {vs : List Nat} : wipeE ρ (v :: vs) = (wipeE ρ vs).set v none := rfl
end GK

namespace GK
open PySem PySem.Spec PyProof.Rows L2

/-! ### C(..), the arguments some that others own -/
theorem Post.ofRd {K : PySem.W.Frag} {B A : List Addr} {F H : Hp} {n : Nat} {R : D → Prop} {Q : VK} (w : WF B F H) (k : Post K B A F H (.own n) R Q) : Post K B [] (rdH B H) H (.own n) (fun d => flatN n d = true ∧ R d) Q := fun F' H' v d fp s hv ho hn hR => by
  have hv : Own K F' H' n v d fp := hv
  have s2 : Step B A F H F H' := ⟨s.same, fun _ _ h => h, fun _ _ h => .inl h, ⟨fun a u e => rdH_same s.same a u (w.sub a u e), s.wf.lock, s.wf.bag⟩⟩
  have ht := hv.there
  refine k _ H' v d fp s2.addT (Own.flat (fun a vs e => addT_tup s2.wf.sub (s.wf.sub _ _ e)) hR.1 hv) (fun a ha => ?_) hn hR.2
  obtain ⟨h1, h2, h3⟩ := ho a ha
  refine ⟨h1.elim (fun h => by cases h) .inr, ?_, h3⟩
  have hz : H a = none := h1.elim (fun h => by cases h) id
  obtain ⟨o, e, mu⟩ := ht a ha
  cases q : addT F (rdH B H') a with
  | none => rfl
  | some u =>
    exfalso
    rcases addT_cases q with z | ⟨z, t⟩
    · rw [F_none w hz] at z; cases z
    · obtain ⟨_, x, ex, er⟩ := rdH_some z
      rw [e] at ex; cases ex
      rw [mut_er mu] at er; subst er
      cases o <;> first | exact mu | exact t
theorem de_CkR {X : Cx} {B : List Addr} {k k' n : Nat} {C : Addr} {ps : List Str} {x : Str} {p pos : Pos} {e : Expr} {es : List Expr} {m : Mode} {ms : List Mode} {fs : FA} {dd : List D} {W : FSpecM} (c : CalK X.prog X.w X.K X.mg X.base x C k n ps m dd W) (hr : Room k' X.A) (ha : DA X B (e :: es) ms fs)
    (hk : k + 1 ≤ k' := by decide) (hg : Gl X x := by rfl) (hdb : (x == ("__debug__" : Str)) = false := by decide) (he : starEach (e :: es) X.env = (false, eval e X.env) :: starEach es X.env := by rfl) (hpl : (backTo pos (starEach es X.env)).any (·.1) = false := by rfl) :
    DE X B (.Call (.Name x p) (e :: es) [] pos) (.own (n + 1)) (fArgs (fun xs R => W (.obj C []) (xs ++ dd) fun d s => d = .non ∧ flatN (n + 1) s = true ∧ R s) fs) := by
  obtain ⟨f, fd, ds, dvs, F, M, hm, hb, hd, hdd⟩ := c.ex
  exact PE.imp (pe_make M F (hr.mono hk) hg hm hb hd pass0 ha hdb he hpl) fun σ H Q ⟨F, ρ, fp, R, S, hf, k⟩ => ⟨F, ρ, fp, _, S, hf, fun F1 H1 vs xs fp1 s1 hv o1 n1 hW x dx hx hdx ne =>
    make_ok (wf_rd s1.wf) ((hv.rd s1.wf fun a ha => (o1 a ha).2.2).append (hdd _)) hx hdx ne hW ((k.after s1 (A1 := fp1) fun a ha => (o1 a ha).1).ofRd s1.wf)⟩
end GK

namespace GK
open PySem PySem.Spec PyProof.Rows L2

/-! ### insert; get with one argument; tuple(xs); list(range(n)) -/
theorem OwnL.cut {P : V → D → List Addr → Prop} : ∀ {vs : List V} {ds : List D} {f : List Addr} (k : Nat), OwnL P vs ds f → ∃ g h, f = g ++ h ∧ OwnL P (vs.take k) (ds.take k) g ∧ OwnL P (vs.drop k) (ds.drop k) h
  | vs, ds, f, 0, o => ⟨[], f, rfl, rfl, o⟩
  | [], [], f, k + 1, o => ⟨f, [], (List.append_nil f).symm, o, rfl⟩
  | v :: vs, d :: ds, f, k + 1, ⟨f1, f2, e, h, t⟩ => by
    obtain ⟨g, g', e', h1, h2⟩ := OwnL.cut k t
    exact ⟨f1 ++ g, g', by rw [e, e', List.append_assoc], ⟨f1, g, rfl, h, h1⟩, h2⟩
def insD (ds : List D) (j : Nat) (d : D) : List D := ds.take j ++ [d] ++ ds.drop j
theorem OwnL.insert {P : V → D → List Addr → Prop} {v : V} {d : D} {g : List Addr} (q : P v d g) {vs : List V} {ds : List D} {f : List Addr} (k : Nat) (h : OwnL P vs ds f) (nd : (f ++ g).Nodup) :
    ∃ f', OwnL P (vs.take k ++ [v] ++ vs.drop k) (insD ds k d) f' ∧ (∀ a ∈ f', a ∈ f ∨ a ∈ g) ∧ f'.Nodup := by
  obtain ⟨f1, f2, e, h1, h2⟩ := h.cut k
  subst e
  refine ⟨f1 ++ g ++ f2, (h1.append (OwnL.one q)).append h2, fun a ha => ?_, ?_⟩
  · simp only [List.mem_append] at ha ⊢
    rcases ha with (z | z) | z
    · exact .inl (.inl z)
    · exact .inr z
    · exact .inl (.inr z)
  · simp only [List.nodup_append, List.mem_append] at nd ⊢
    obtain ⟨⟨n1, n2, n3⟩, n4, n5⟩ := nd
    refine ⟨⟨n1, n4, fun a ha b hb => n5 a (.inl ha) b hb⟩, n2, fun a ha b hb => ?_⟩
    rcases ha with z | z
    · exact n3 a z b hb
    · exact fun e => n5 b (.inr hb) a z e.symm
section
variable {X : Cx} {ej e : Expr} {pin n i : Nat} {m : Mode} {fj fe : FE} {x : Str} {pos p apos cpos : Pos}
/-- x.insert(j, e) -/
theorem dm_insert (i n : Nat) (hj : DE X B ej (.own 0) fj) (he : DE X B e (.own n) fe) (hN : NameOk X i x := by exact ⟨rfl, by first | exact Or.inl rfl | exact Or.inr (Or.inl rfl) | exact Or.inr (Or.inr rfl), by decide, by decide⟩) (hb : BmOk X (.Name x p) "insert" apos ej [e] cpos := by exact ⟨rfl, rfl, rfl, rfl, rfl⟩)
    (hs : starEach [e] X.env = (false, eval e X.env) :: starEach [] X.env := by rfl) :
    DM X B (.Call (.Attribute (.Name x p) "insert" apos) [ej, e] [] cpos) pin m (fun ρ R => ownLst ρ i n (fun _ => True) ∧ fj ρ fun j => fe ρ fun d => ∃ j', j = .int j' ∧ 0 ≤ j' ∧ j' < 2 ^ 63 ∧ ownLst ρ i n fun ds => ds.length < sizeLine ∧ R .non (ρ.set i (some (n + 1, .lst (insD ds j'.toNat d))))) :=
  PE.imp (pe_bm PySem.F.plainAttrs_list PySem.F.slot_list_insert PySem.F.type_list_insert mt_insert (pe_var hN.1 hN.2 hN.3 hN.4) (da_cons hj (da_cons he da_nil hs) hb.4) hb.1 hb.2 hb.3 hb.4 hb.5) fun σ H Q ⟨Pn, Z0, F0, F, ρ, fp, R, hpl, S, ⟨h0, hf⟩, k⟩ => by
    obtain ⟨ds0, e0, _⟩ := h0.inv
    obtain ⟨a, vs, g, h1, h2, h3, h4, h5, h6, kk⟩ := S.lst e0
    refine ⟨_, h1, .inl ⟨rfl, _, SqL.of h2⟩, F, ρ, fp, fun xs => ∃ j d, xs = [j, d] ∧ ∃ j', j = .int j' ∧ 0 ≤ j' ∧ j' < 2 ^ 63 ∧ ownLst ρ i n fun ds => ds.length < sizeLine ∧ R .non (ρ.set i (some (n + 1, .lst (insD ds j'.toNat d)))), S.base, ?_, fun F' H' ws xs fx s hw ox nx ⟨j, d, ex, j', ej', l1, l2, hR⟩ => ?_⟩
    · show fj ρ fun x => fe ρ fun y => ∃ j d, [x, y] = [j, d] ∧ _
      have : (fun x => fe ρ fun y => ∃ j d, [x, y] = [j, d] ∧ ∃ j', j = .int j' ∧ 0 ≤ j' ∧ j' < 2 ^ 63 ∧ ownLst ρ i n fun ds => ds.length < sizeLine ∧ R .non (ρ.set i (some (n + 1, .lst (insD ds j'.toNat d))))) = fun x => fe ρ fun y => ∃ j', x = .int j' ∧ 0 ≤ j' ∧ j' < 2 ^ 63 ∧ ownLst ρ i n fun ds => ds.length < sizeLine ∧ R .non (ρ.set i (some (n + 1, .lst (insD ds j'.toNat y)))) := by
        funext x
        congr 1
        funext y
        exact propext ⟨fun ⟨j, d, e, h⟩ => by cases e; exact h, fun h => ⟨x, y, rfl, h⟩⟩
      rw [this]; exact hf
    subst ex
    subst ej'
    obtain ⟨w1, w2, f1, f2, ew, hw1, hw2, ef⟩ := hw.two
    subst ew
    obtain ⟨rfl, rfl⟩ := hw1.int
    obtain ⟨ds, e1, hz, hR⟩ := hR.inv
    have S' := S.step s fun a h => (by cases h)
    have ap := S.apart ox nx
    rw [List.nil_append] at ef
    subst ef
    obtain ⟨a', vs', g', h1', h2', h3', h4', h5', h6', kk'⟩ := S'.lst e1
    rw [h1] at h1'
    cases h1'
    have hw2 : Own X.K F' H' n w2 d fx := hw2
    obtain ⟨g2, o2, sub, nd⟩ := OwnL.insert hw2 j'.toNat h3' (nd_of h5' ap.2 fun b hb z => (ap.1 b hb).2.2.2 (h6' b (List.mem_cons_of_mem _ z)))
    obtain ⟨fp2, S3⟩ := kk' _ _ g2 fx ap sub nd o2
    exact ⟨a, vs', j', w2, rfl, rfl, h2', by rw [h3'.len]; exact hz, l1, l2, k F' _ _ fp2 .non .non [] S3 (Val.atom rfl fun _ => .non) .nil hR⟩
/-- d.get(k) -/
def gDGet1 (d k : D) (R : D → Prop) : Prop := ∃ o, lookD d k = some o ∧ R (o.getD .non)
theorem de_dget1 {a b : Expr} {m m' : Mode} {f f' : FE} (hu : X.A.units + 1 < cLine) (ha : DE X B a m f) (hb : DE X B b .rd f') (hm : m.look = true := by rfl) (hc : m' = m.child := by rfl)
    (M : M1 X a "get" apos b cpos := by exact ⟨rfl, rfl, rfl, rfl⟩) : DE X B (.Call (.Attribute a "get" apos) [b] [] cpos) m' (fun ρ R => f ρ fun d => isDctD d ∧ f' ρ fun k => gDGet1 d k R) := by
  subst hc
  exact PE.imp (pe_dget1 hu ha hb M) fun σ H Q ⟨F, ρ, fp, R, S, hf, k⟩ => by
    refine ⟨F, ρ, fp, _, S, hf, fun F1 H1 v d f1 s1 hv o1 n1 ⟨hd, hg⟩ => ?_⟩
    obtain ⟨a, rfl, hd', haB⟩ := isDctD.of hm s1.wf hv hd
    refine ⟨a, rfl, hd', F1, ρ, fp, _, S.step s1 (fun a ha => by cases ha), hg, fun F2 H2 kv kd f2 s2 hkv o2 n2 ⟨o, ho, hR⟩ => ?_⟩
    have hv2 := hv.step s2 fun a ha => (o1 a ha).2.2
    obtain ⟨a', ov, ea, g, _, h⟩ := look_ok (m := m) (mk := .rd) (f2 := []) hm s2.wf hv2 hkv.1 ho
    cases ea
    have k2 := (k.after s1 (A1 := []) fun a h => by cases h).after s2 (A1 := []) fun a h => by cases h
    refine ⟨ov, g, ?_⟩
    rcases h with ⟨q, q'⟩ | ⟨x', y', e1, e2, hy⟩
    · rw [q']
      rw [q] at hR
      exact k2.non s2.wf hR
    · rw [e2]
      rw [e1] at hR
      exact k2.val s2.wf hy hR
/-- tuple(xs) -/
def gTupL : List D → (D → Prop) → Prop
  | [.lst ds], R => R (.tup ds)
  | [.tup ds], R => R (.tup ds)
  | _, _ => False
theorem opN_tupL {K : PySem.W.Frag} : OpN K (fun xs H Q => ∃ p ys, xs = [.ref p] ∧ ((SqL K H p ys ∧ ∀ l, H l = none → Q (.ref l) (upd H l (.tup ys))) ∨ (SqT K H p ys ∧ Q (.ref p) H))) [.own 0] (.own 0) gTupL := by
  intro B F H vs ds fp R Q w hv hf hg k
  unfold gTupL at hg
  split at hg
  · obtain ⟨v, rfl, h⟩ := hv.one
    obtain ⟨a, xs, rfl, ha, r⟩ := (show GK.R K F v _ from h.1).lstI
    exact ⟨a, xs, rfl, .inl ⟨sqL_rd (w.sub _ _ ha), fun l hl => k.newTup w r hg hl⟩⟩
  · obtain ⟨v, rfl, h⟩ := hv.one
    obtain ⟨a, xs, rfl, ha, r⟩ := (show GK.R K F v _ from h.1).tupI
    exact ⟨a, xs, rfl, .inr ⟨sqT_rd (w.sub _ _ ha), k F H _ _ [] (Step.refl w) ⟨h.1, rfl⟩ (fun a h => by cases h) List.nodup_nil hg⟩⟩
  · exact hg.elim
theorem de_tupL {f : FE} (hz : X.mg "tuple" = none) (ha : DE X B e (.own 0) f) (hg : Gl X "tuple" := by rfl) (he : starEach [e] X.env = (false, eval e X.env) :: starEach [] X.env := by rfl) (hpl : (backTo pos (starEach [] X.env)).any (·.1) = false := by rfl) :
    DE X B (.Call (.Name "tuple" p) [e] [] pos) (.own 0) (fArgs gTupL (fCons f fNil)) := de_Ty call_tuple_of opN_tupL hg hz (by decide +kernel) (da_cons ha da_nil he) (by decide) (by decide) he hpl
/-- list(range(n)) -/
def gLRg (R : D → Prop) : D → Prop
  | .int n => 0 ≤ n ∧ n ≤ 16777216 ∧ R (.lst (rangeD 0 n.toNat))
  | _ => False
theorem rl_rng {K : PySem.W.Frag} {F : Hp} : ∀ (xs : List Int), RL K F (xs.map V.int) (xs.map D.int)
  | [] => .nil
  | x :: xs => .cons (.int x) (rl_rng xs)
theorem de_listRg {f : FE} {p2 pos2 : Pos} {m1 : Mode} (hc : X.calm = true) (hz : X.mg "list" = none) (hr : X.mg "range" = none) (ha : DE X B e m1 f) (hg : Gl X "list" := by rfl) (hg2 : Gl X "range" := by rfl) (he : starEach [e] X.env = (false, eval e X.env) :: starEach [] X.env := by rfl)
    (he2 : starEach [.Call (.Name "range" p2) [e] [] pos2] X.env = (false, eval (.Call (.Name "range" p2) [e] [] pos2) X.env) :: starEach [] X.env := by rfl) :
    DE X B (.Call (.Name "list" p) [.Call (.Name "range" p2) [e] [] pos2] [] pos) (.own 1) (fun ρ R => f ρ (gLRg R)) :=
  PE.imp (pe_listRg hc hg hz (prg_1 hg2 hr ha he) he2) fun σ H Q ⟨F, ρ, fp, R, S, hf, k⟩ => by
    refine ⟨F, ρ, fp, _, S, hf, fun F1 H1 v d f1 s1 hv o1 n1 hd => ?_⟩
    cases d <;> try exact (show False from hd).elim
    rename_i n
    obtain ⟨rfl, _⟩ := hv.int
    obtain ⟨h0, h1, hR⟩ := hd
    refine ⟨n, rfl, RgOk.of_le (Int.le_refl 0) h1 (by decide) h0, fun q hq => ?_⟩
    have e1 : rgV 0 n = ((List.range n.toNat).map fun i : Nat => (0 : Int) + (i : Int)).map V.int := by unfold rgV; rw [List.map_map, Int.sub_zero]; rfl
    have e2 : rangeD 0 n.toNat = ((List.range n.toNat).map fun i : Nat => (0 : Int) + (i : Int)).map D.int := by unfold rangeD; rw [List.map_map]; rfl
    rw [e1]
    rw [e2] at hR
    exact (k.after s1 (A1 := []) fun a h => by cases h).newLst0 s1.wf (rl_rng _) hR hq
end
end GK

namespace GK
open PySem PySem.Spec PyProof.Rows L2

/-! ### enumerate of a list or a tuple -/
theorem fld_ne {h : Heap} {a b : Addr} {u v : Obj} {c1 c2 : String} (e1 : h.get? a = some u) (e2 : h.get? b = some v) (q1 : u.cls = .type c1) (q2 : v.cls = .type c2) (n : c1 ≠ c2) : a ≠ b := fun e => by
  subst e
  rw [e1] at e2
  cases e2
  rw [q1] at q2
  exact n (Value.type.inj q2)
section
open AutoSeq1 (wpAny_loadPart')
theorem enum_new1 {v : Value} {ob : Obj} {Z : Heap → Prop} (bg : Begins v ob Z) : Meets (Builtin.«enumerate.__new__» ⟨[.type "enumerate", v], []⟩) (fun _ R s => Z s.heap ∧
      R (.ok (.ret (.ref (s.heap.push ob).objs.size))) { s with heap := (s.heap.push ob).push { cls := .type "enumerate", data := .fields #[.none, .bool false, .ref s.heap.objs.size, rawInt 0, .none, .none] } }) :=
  .of_wp fun P w A R s h => by
    obtain ⟨hp, gg, dd, tt, oo⟩ := s
    obtain ⟨hz, h⟩ := h
    have su := sub_enumerate
    have it1 : ∀ {A' : Around} {E : Value → Shared → Prop} {Q : Value → Shared → Prop}, Q (.ref hp.objs.size) ⟨hp.push ob, gg, dd, tt, oo⟩ → wpAny (model P w) A' (pyIter v) Q E ⟨hp, gg, dd, tt, oo⟩ :=
      fun q => bg.iter P w _ _ ⟨hp, gg, dd, tt, oo⟩ _ hz q
    wp_walk using it1
    refine wpAny_stack_any fun st => wpAny_pure ?_
    split
    · rename_i c _ _ _ _ _
      cases (c == Value.type "enumerate") <;> (wp_walk using it1; exact ⟨_, rfl, h⟩)
    · wp_walk using it1
      exact ⟨_, rfl, h⟩
end
section
variable {P : Program} {w : World} {A : Around} {E : Value → Shared → Prop} {s : Shared}
theorem enum_call1 {v : Value} {ob : Obj} {Z : Heap → Prop} {Q : Value → Shared → Prop} (bg : Begins v ob Z) (hz : Z s.heap)
    (k : ∀ g', IsEnum g' (s.heap.objs.size + 1) s.heap.objs.size 0 .none → g'.get? s.heap.objs.size = some ob → (∀ b u, s.heap.get? b = some u → g'.get? b = some u) → Q (.ref (s.heap.objs.size + 1)) { s with heap := g' }) :
    wpAny (model P w) A (call (.type "enumerate") [v]) Q E s := by
  refine callType_new F.called_enumerate (by decide) (F.typeCall_enumerate_1 _) (F.newCall_enumerate_1 _) (fun q => F.args_object_init_2 q _) F.entry_enumerate_new (enum_new1 bg) ⟨hz, ?_⟩
  have sz : (s.heap.push ob).objs.size = s.heap.objs.size + 1 := Heap.size_push ..
  show _ ∧ _
  rw [sz]
  have ie : IsEnum ((s.heap.push ob).push { cls := .type "enumerate", data := .fields #[.none, .bool false, .ref s.heap.objs.size, rawInt 0, .none, .none] }) (s.heap.objs.size + 1) s.heap.objs.size 0 .none := by
    have q := Heap.get?_push_size (s.heap.push ob) (o := { cls := .type "enumerate", data := .fields #[.none, .bool false, .ref s.heap.objs.size, rawInt 0, .none, .none] }) rfl
    rw [sz] at q; exact q
  exact ⟨⟨_, ie, rfl⟩, k _ ie (Heap.get?_push_of_some _ (Heap.get?_push_size _ bg.free)) fun b u x => Heap.get?_push_of_some _ (Heap.get?_push_of_some _ x)⟩
end
/-- the items of the tuple at a, numbered -/
def Itet (K : PySem.W.Frag) (a : Addr) : It :=
  ⟨fun i H => ∃ (xs : List V) (x : V), SqT K H a xs ∧ xs[i]? = some x, fun i H v H' => ∃ T x, v = .ref T ∧ H T = none ∧ H' = upd H T (.tup [.int (i : Nat), x]) ∧ ∀ xs, SqT K H a xs → xs[i]? = some x, fun i H => ∃ xs : List V, SqT K H a xs ∧ xs.length ≤ i⟩
theorem turn_enumT {P : Program} {w : World} {K : PySem.W.Frag} {elts : List Expr} {kk : Nat} {tpos : Pos} (a e it : Addr) :
    Turn P w K (.Tuple elts kk tpos) (Itet K a) [e, it] e (fun i h => (∃ old, IsEnum h e it ((i : Nat) : Int) old) ∧ h.IsTupleIter it a i ∧ e ≠ it) where
  mem := by simp
  obj := fun i h st b hb => by
    obtain ⟨⟨old, he⟩, ⟨o, ho, hc, hd⟩, _⟩ := st
    rcases (show b = e ∨ b = it by simpa using hb) with z | z
    · rw [z]; exact ⟨_, he, fun v q => nomatch q⟩
    · rw [z]; exact ⟨o, ho, fun v q => by rw [hd] at q; cases q⟩
  keep := fun i h g' st k => let ⟨⟨old, he⟩, hi, hne⟩ := st; ⟨⟨old, k e (by simp) _ he⟩, hi.at fun o q => k it (by simp) o q, hne⟩
  item := by
    intro X e1 e2 e3 hc i pins s σ H E I hf st ⟨xs, x, hq, hx⟩
    subst e1 e2 e3
    obtain ⟨⟨old, he⟩, hit, hne⟩ := st
    obtain ⟨its, rv, p, hz⟩ := I.tuple hq
    obtain ⟨u, hu, ru⟩ := rv.get hx
    have hlt : i < its.toArray.size := by rw [List.size_toArray]; exact (List.getElem?_eq_some_iff.mp hu).1
    have hel : e < s.heap.objs.size := Heap.lt_size he
    obtain ⟨ot, eo, co, do1⟩ := id hit
    obtain ⟨ol, el, cl, rl⟩ := id (show s.heap.IsTuple a its.toArray from p)
    have nai : a ≠ it := fld_ne el eo cl co (by decide)
    have nae : a ≠ e := fld_ne el he cl rfl (by decide)
    refine wpAny_pyNext_enum_itemD (Draws.tuple (prog := X.prog) (w := X.w) (A := X.A.in1) (I.ok.hd hc) it a nai its.toArray) he ⟨hit, p⟩ hlt hne (by simp [hne, Ne.symm nae]) fun y g' tk hy ho ⟨hit2, _⟩ hT hsz hk => ?_
    have ey : y = u := by
      have : its.toArray[i]? = some u := by simpa using hu
      rw [this] at hy; cases hy; rfl
    subst ey
    refine ⟨_, rfl, wpAny_letOwnedTupleGo_enum (s := { s with heap := g', toks := tk + 1 }) ho fun g2 he2 sb => ?_⟩
    have hT2 : g2.get? s.heap.objs.size = some { cls := .type "tuple", data := .seq #[.int i tk, y] } := (sb.2 _ (Nat.ne_of_gt hel)).trans hT
    have nw : ObjOk X.prog X.w (upd H s.heap.objs.size (.tup [.int (i : Nat), x])) g2 s.heap.objs.size (.tup [.int (i : Nat), x]) := ⟨by show 2 ≤ sizeLine; decide, [.int i tk, y], .cons ⟨_, rfl⟩ (.cons ru .nil), ⟨_, hT2, rfl, _, rfl⟩⟩
    have I1 : Inv X pins σ (upd H s.heap.objs.size (.tup [.int (i : Nat), x])) { s with heap := g2, toks := tk + 1 } := I.turnedNew (ch := [e, it]) (fun b ob hb q => (sb.2 b (fun z => hb (by simp [z]))).trans (hk b ob (fun z => hb (by simp [z])) (fun z => hb (by simp [z])) q)) hf (Nat.le_refl _) nw
    refine ⟨.ref s.heap.objs.size, _, I1, rfl, ⟨_, x, rfl, I.hok.fresh (Nat.le_refl _), rfl, fun ys hy => by rw [I.tuple_inj hy hq]; exact hx⟩, ⟨⟨y, ?_⟩, hit2.at fun o q => (sb.2 it (Ne.symm hne)).trans q, hne⟩, fun b hb => ?_⟩
    · rw [show ((i + 1 : Nat) : Int) = (i : Int) + 1 by omega]
      exact he2
    · have lb : b < s.heap.objs.size := by
        rcases (show b = e ∨ b = it by simpa using hb) with z | z
        · rw [z]; exact hel
        · rw [z]; exact Heap.lt_size eo
      rw [upd_ne (Nat.ne_of_lt lb)]
      exact (hf b hb).1
  done := by
    intro X e1 e2 e3 hc i pins s σ H E I hf st ⟨xs, hq, hx⟩
    subst e1 e2 e3
    obtain ⟨⟨old, he⟩, hit, hne⟩ := st
    obtain ⟨its, rv, p, hz⟩ := I.tuple hq
    obtain ⟨f0, f1, f2, f3, f4, f5⟩ := hf it (by simp)
    have hl := rv.length
    refine wpAny_pyNext_enum_endD (it := it) (fp := [it, a]) (n := i) (P := fun _ _ => True) (St := fun j g => j = i ∧ g.IsTupleIter it a i ∧ g.IsTuple a its.toArray) ⟨fun j g ⟨_, ⟨o, ho, _⟩, _⟩ => ⟨o, ho⟩, fun j g g' ⟨ej, h1, h2⟩ k => ⟨ej, h1.at fun o q => k it (by simp) o q, h2.at fun o q => k a (by simp) o q⟩,
      fun j s Q E hj ⟨ej, _⟩ => absurd ej (Nat.ne_of_lt hj), fun s Q E ⟨_, h1, h2⟩ k => wpAny_nextOf_tuple_end (show X.A.in1.handled = _ from I.ok.hd hc) h1 h2 (by simp; omega) k⟩ he ⟨rfl, hit, p⟩ fun g' eb => ⟨rfl, I.turned (t' := s.toks) (fun b o hb q => eb b o hb q) f0 f1 f3 f4 f5⟩
  self := fun A i s Q E st h => let ⟨⟨_, he⟩, _⟩ := st; wpAny_pyIter_enum he h
def iEnumU (K : PySem.W.Frag) (ta : TA) : TI := fun σ H R => ta σ H fun vs H1 => ∃ a xs, vs = [.ref a] ∧ ((SqL K H1 a xs ∧ R (Ite K a) H1) ∨ (SqT K H1 a xs ∧ R (Itet K a) H1))
theorem pi_enumU {X : Cx} {e : Expr} {ta : TA} {p pos tpos : Pos} {elts : List Expr} {kk : Nat} (hg : Gl X "enumerate") (hm : X.mg "enumerate" = none) (ha : PA X [e] ta) (hs : starEach [e] X.env = [(false, eval e X.env)] := by rfl) :
    PI X (.Tuple elts kk tpos) (.Call (.Name "enumerate" p) [e] [] pos) (iEnumU X.K ta) := ⟨fun pins s σ H R I h => by
  refine Call_ (ld_blt I hg hm boot_enumerate (PyProof.Rows.callWith_type1 (thn (ha.run pos pins s σ H _ I h) fun us s1 ⟨vs, H1, I1, r1, a, xs, ex, q⟩ => ?_) hs rfl))
  subst ex
  cases r1 with
  | cons r rr =>
    cases rr
    cases r
    have fpo : ∀ b ∈ [s1.heap.objs.size + 1, s1.heap.objs.size], s1.heap.objs.size ≤ b := fun b hb => by
      rcases (show b = s1.heap.objs.size + 1 ∨ b = s1.heap.objs.size by simpa using hb) with z | z <;> (rw [z]; omega)
    rcases q with ⟨hq, q⟩ | ⟨hq, q⟩
    · obtain ⟨its, rv, p', hz⟩ := I1.list hq
      refine enum_call1 (begins_list a its.toArray) p'.isList fun g' he hit hk => wpAny_pyIter_enum he ?_
      exact ⟨s1.heap.objs.size + 1, [s1.heap.objs.size + 1, s1.heap.objs.size], _, _, H1, rfl, I1.kept (t' := s1.toks) hk, turn_enum a (s1.heap.objs.size + 1) s1.heap.objs.size, ⟨⟨.none, he⟩, ⟨_, hit, rfl, rfl⟩, Nat.succ_ne_self _⟩, fun b hb => I1.fpOk (fpo b hb) (I1.hok.fresh (fpo b hb)), q⟩
    · obtain ⟨its, rv, p', hz⟩ := I1.tuple hq
      refine enum_call1 (begins_tuple a its.toArray) p' fun g' he hit hk => wpAny_pyIter_enum he ?_
      exact ⟨s1.heap.objs.size + 1, [s1.heap.objs.size + 1, s1.heap.objs.size], _, _, H1, rfl, I1.kept (t' := s1.toks) hk, turn_enumT a (s1.heap.objs.size + 1) s1.heap.objs.size, ⟨⟨.none, he⟩, ⟨_, hit, rfl, rfl⟩, Nat.succ_ne_self _⟩, fun b hb => I1.fpOk (fpo b hb) (I1.hok.fresh (fpo b hb)), q⟩⟩
/-- the items, numbered -/
def enumL (xs : List D) : List D := xs.mapIdx fun i d => .tup [.int (i : Int), d]
def enOf (R : List D → Prop) : D → Prop
  | .lst xs => R (enumL xs)
  | .tup xs => R (enumL xs)
  | _ => False
section
variable {K : PySem.W.Frag} {B fp : List Addr} {F F1 H H1 : Hp}
theorem enumL_len {xs : List D} : (enumL xs).length = xs.length := by unfold enumL; rw [List.length_mapIdx]
theorem enumL_get {xs : List D} {i : Nat} {d : D} (h : xs[i]? = some d) : (enumL xs)[i]? = some (.tup [.int (i : Int), d]) := by unfold enumL; rw [List.getElem?_mapIdx, h]; rfl
theorem itD_enL {a : Addr} {vs : List V} {xs : List D} (hF : ∀ a ∈ fp, F1 a = none) (w : WF B F1 H1) (h : F1 a = some (.lst vs)) (r : RL K F1 vs xs) : ItD K B (prot B fp H1) F1 (Ite K a) (enumL xs) := by
  intro i F H w' sz sf
  obtain ⟨x, ex, er⟩ := protF hF w h
  have hs : SqL K H a vs := .inl (rd_of_er (sz a x ex) er)
  have rl := r.mono sf
  rw [enumL_len]
  refine ⟨fun hi => ?_, fun hi => ⟨vs, hs, by rw [r.length]; exact hi⟩⟩
  have hi' : i < vs.length := by rw [r.length]; exact hi
  refine ⟨⟨vs, vs[i], hs, by simp [hi']⟩, fun y H' ⟨T, x, ey, eT, eH, hy⟩ => ?_⟩
  subst ey
  subst eH
  obtain ⟨d, ed, rd⟩ := rl.getV (hy vs hs)
  have s := Step.laidF (A := []) w' eT (o := .tup [.int (i : Nat), x]) rfl
  exact ⟨_, _, enumL_get ed, s, .tup upd_same (.cons (.int _) (.cons (rd.mono s.fs) .nil))⟩
theorem itD_enT {a : Addr} {vs : List V} {xs : List D} (hF : ∀ a ∈ fp, F1 a = none) (w : WF B F1 H1) (h : F1 a = some (.tup vs)) (r : RL K F1 vs xs) : ItD K B (prot B fp H1) F1 (Itet K a) (enumL xs) := by
  intro i F H w' sz sf
  obtain ⟨x, ex, er⟩ := protF hF w h
  have hs : SqT K H a vs := .inl (rd_of_er (sz a x ex) er)
  have rl := r.mono sf
  rw [enumL_len]
  refine ⟨fun hi => ?_, fun hi => ⟨vs, hs, by rw [r.length]; exact hi⟩⟩
  have hi' : i < vs.length := by rw [r.length]; exact hi
  refine ⟨⟨vs, vs[i], hs, by simp [hi']⟩, fun y H' ⟨T, x, ey, eT, eH, hy⟩ => ?_⟩
  subst ey
  subst eH
  obtain ⟨d, ed, rd⟩ := rl.getV (hy vs hs)
  have s := Step.laidF (A := []) w' eT (o := .tup [.int (i : Nat), x]) rfl
  exact ⟨_, _, enumL_get ed, s, .tup upd_same (.cons (.int _) (.cons (rd.mono s.fs) .nil))⟩
end
theorem di_enum {X : Cx} {e : Expr} {f : FE} {p pos tpos : Pos} {elts : List Expr} {kk : Nat} (hz : X.mg "enumerate" = none) (h : DE X B e (.own 0) f) (hg : Gl X "enumerate" := by rfl) (hs : starEach [e] X.env = [(false, eval e X.env)] := by rfl) (hs' : starEach [e] X.env = (false, eval e X.env) :: starEach [] X.env := by rfl) :
    DI X B (.Tuple elts kk tpos) (.Call (.Name "enumerate" p) [e] [] pos) (fun ρ R => f ρ (enOf R)) :=
  PI.imp (pi_enumU hg hz (da_cons h da_nil hs') hs) fun σ H R ⟨F, ρ, fp, Rx, S, hf, k⟩ => ⟨F, ρ, fp, fun ds => ∃ d, ds = [d] ∧ enOf Rx d, S, by
    show f ρ fun x => ∃ d, [x] = [d] ∧ enOf Rx d
    have : (fun x => ∃ d, [x] = [d] ∧ enOf Rx d) = enOf Rx := by
      funext x
      exact propext ⟨fun ⟨d, e, h⟩ => by cases e; exact h, fun h => ⟨x, rfl, h⟩⟩
    rw [this]; exact hf, fun F1 H1 vs ds f1 s1 hv o1 n1 ⟨d, ed, hR⟩ => by
    subst ed
    obtain ⟨v, rfl, h1⟩ := hv.one
    have h1 : GK.R X.K F1 v d := (show Own X.K F1 H1 0 v d f1 from h1).1
    cases d <;> try exact (show False from hR).elim
    · obtain ⟨a, vs, rfl, ht, r⟩ := h1.tupI
      exact ⟨a, vs, rfl, .inr ⟨tup_sub s1.wf ht, k _ F1 H1 _ s1 (itD_enT (outF (S.step s1 fun a h => by cases h)) s1.wf ht r) hR⟩⟩
    · obtain ⟨a, vs, rfl, ht, r⟩ := h1.lstI
      exact ⟨a, vs, rfl, .inl ⟨lst_sub s1.wf ht, k _ F1 H1 _ s1 (itD_enL (outF (S.step s1 fun a h => by cases h)) s1.wf ht r) hR⟩⟩⟩
end GK

namespace GK
open PySem PySem.Spec PyProof.Rows L2

/-! ### nested targets; tuples of what is owned; a dict of one pair -/
def tg2 (t u : D → Env → Option Env) : D → Env → Option Env := fun d ρ => match d with
  | .tup [x, y] => (t x ρ).bind (u y)
  | _ => none
section
variable {X : Cx} {pin : Nat} {pos : Pos}
theorem dg_tup2 {ea eb : Expr} {k : Nat} {t u : D → Env → Option Env} (hc : X.calm = true) (ha : DG X pin ea t) (hb : DG X pin eb u) (hs : (assignEach [ea, eb] X.env).map (·.2) = assign ea X.env :: (assignEach [eb] X.env).map (·.2) := by rfl) (hs2 : (assignEach [eb] X.env).map (·.2) = assign eb X.env :: (assignEach [] X.env).map (·.2) := by rfl)
    (hn : (assignEach [ea, eb] X.env).length = 2 := by rfl) (hst : (assignEach [ea, eb] X.env).findIdx? (·.1) = none := by rfl) : DG X pin (.Tuple [ea, eb] k pos) (tg2 t u) := by
  obtain ⟨ga, pa, ka⟩ := ha.ok
  obtain ⟨gb, pb, kb⟩ := hb.ok
  refine ⟨_, pg_tup hc (pgs_cons pa (pgs_cons pb pgs_nil hs2) hs) hn hst, fun B Pn Z0 F0 F H σ ρ ρ' fp v d hpl S r e Q k => ?_⟩
  unfold tg2 at e
  split at e
  · rename_i x y
    obtain ⟨ρ1, e1, e2⟩ := Option.bind_eq_some_iff.mp e
    obtain ⟨a, vs, rfl, ht, rl⟩ := r.tupI
    cases rl with
    | cons r1 rl =>
      cases rl with
      | cons r2 rl =>
        cases rl
        exact ⟨a, _, rfl, tup_sub S.wf ht, rfl, _, _, rfl, ka B Pn Z0 F0 F H σ ρ ρ1 fp _ _ hpl S r1 e1 _ fun σ1 fp1 S1 => ⟨_, _, rfl, kb B Pn Z0 F0 F H σ1 ρ1 ρ' fp1 _ _ hpl S1 r2 e2 _ fun σ2 fp2 S2 => ⟨rfl, k σ2 fp2 S2⟩⟩⟩
  · cases e
end
section
variable {K : PySem.W.Frag} {B A fp : List Addr} {Pn : List V} {Z0 F0 F F' H H' : Hp} {σ : L2.St} {ρ : Env} {m : Mode} {n : Nat}
theorem StOk.setS {v : V} {d : D} {f : List Addr} {i : Nat} (S : StOk K B Pn Z0 F0 F H σ ρ fp) (h : Own K F H n v d f) (ap : Apart B Z0 F fp f) (hi : i < ρ.length) (hp : Pn.length ≤ i) :
    ∃ fp', StOk K B Pn Z0 F0 F H (σ.set i (some v)) (ρ.set i (some (n, d))) fp' ∧ ∀ a ∈ fp', a ∈ fp ∨ a ∈ f := by
  obtain ⟨fp', o', nd', sub⟩ := OwnE.set (i := i) h S.own (List.nodup_append.mpr ⟨S.nd, ap.2, fun a ha b hb e => (ap.1 b hb).2.2.2 (e ▸ ha)⟩) hi
  refine ⟨fp', ⟨S.wf, o', nd', fun a ha => ?_, S.z, S.zB, S.f, S.fr, fun j w e => ?_⟩, sub⟩
  · rcases sub a ha with z | z
    · exact S.out a z
    · exact ⟨(ap.1 a z).1, (ap.1 a z).2.1, (ap.1 a z).2.2.1⟩
  · have := (List.getElem?_eq_some_iff.mp e).1
    rw [List.getElem?_set_ne (by omega)]
    exact S.pn j w e
end
section
variable {X : Cx} {pin n i j : Nat} {pos p1 p2 : Pos} {x y : Str} {mr : Mode}
theorem mTake_inv {i n : Nat} {ρ : Env} {R : D → Env → Prop} (h : mTake i n ρ R) : ∃ d, slot ρ i = some (n, d) ∧ R d (ρ.set i none) := by
  unfold mTake at h
  split at h
  · rename_i k d e
    obtain ⟨rfl, h⟩ := h
    exact ⟨d, e, h⟩
  · exact h.elim
/-- (x, y), both taken -/
theorem dm_tupTT (i j n : Nat) {k : Nat} (hN : NameOk X i x := by exact ⟨rfl, by first | exact Or.inl rfl | exact Or.inr (Or.inl rfl) | exact Or.inr (Or.inr rfl), by decide, by decide⟩) (hM : NameOk X j y := by exact ⟨rfl, by first | exact Or.inl rfl | exact Or.inr (Or.inl rfl) | exact Or.inr (Or.inr rfl), by decide, by decide⟩)
    (hs : starEach [.Name x p1, .Name y p2] X.env = (false, eval (.Name x p1) X.env) :: starEach [.Name y p2] X.env := by rfl) (hs2 : starEach [.Name y p2] X.env = (false, eval (.Name y p2) X.env) :: starEach [] X.env := by rfl) :
    DM X B (.Tuple [.Name x p1, .Name y p2] k pos) pin (.own (n + 1)) (fun ρ R => mTake i n ρ fun d ρ1 => mTake j n ρ1 fun e ρ2 => R (.tup [d, e]) ρ2) :=
  PE.imp (pe_tup (pa_cons (pe_var hN.1 hN.2 hN.3 hN.4) (pa_cons (pe_var hM.1 hM.2 hM.3 hM.4) pa_nil hs2) hs)) fun σ H Q ⟨Pn, Z0, F0, F, ρ, fp, R, hpl, S, hf, k⟩ => by
    obtain ⟨d, q, hf⟩ := mTake_inv (show mTake i n ρ _ from hf)
    obtain ⟨v, f, fp1, e1, o1, S1, ap1, sub1⟩ := S.take q
    obtain ⟨e, q2, hR⟩ := mTake_inv (show mTake j n (ρ.set i none) _ from hf)
    obtain ⟨u, g, fp2, e2, o2, S2, ap2, sub2⟩ := S1.take q2
    refine ⟨v, e1, u, e2, by show 2 ≤ sizeLine; decide, fun p hp => ?_⟩
    have st := Step.laidF (A := []) S2.wf hp (o := .tup [v, u]) rfl
    have S3 := S2.step st fun a h => (by cases h)
    have np : ∀ {v' d' f'}, Own X.K F H n v' d' f' → ∀ a ∈ f', a ≠ p := fun o a ha z => by
      obtain ⟨ob, eo, _⟩ := o.there a ha
      rw [z, hp] at eo; cases eo
    refine k _ _ _ fp2 (.ref p) (.tup [d, e]) (f ++ g) S3 ⟨p, [v, u], rfl, upd_same, f, g, rfl, Own.mono st.fs (fun a ha o eo => by rw [upd_ne (np o1 a ha)]; exact eo) o1, g, [], (List.append_nil g).symm, Own.mono st.fs (fun a ha o eo => by rw [upd_ne (np o2 a ha)]; exact eo) o2, rfl⟩ ⟨fun a ha => ?_, ?_⟩ hR
    · rcases List.mem_append.mp ha with z | z
      · obtain ⟨r1, r2, r3, r4⟩ := ap1.1 a z
        refine ⟨?_, r2, r3, fun z2 => r4 (sub2 a (List.mem_append_left _ z2))⟩
        rw [upd_ne (np o1 a z)]; exact r1
      · obtain ⟨r1, r2, r3, r4⟩ := ap2.1 a z
        refine ⟨?_, r2, r3, r4⟩
        rw [upd_ne (np o2 a z)]; exact r1
    · exact List.nodup_append.mpr ⟨ap1.2, ap2.2, fun a ha b hb z => (ap1.1 a ha).2.2.2 (sub2 a (List.mem_append_right _ (z ▸ hb)))⟩
/-- (x, None), x taken -/
theorem dm_tupTN (i n : Nat) {k jj : Nat} (hN : NameOk X i x := by exact ⟨rfl, by first | exact Or.inl rfl | exact Or.inr (Or.inl rfl) | exact Or.inr (Or.inr rfl), by decide, by decide⟩)
    (hs : starEach [.Name x p1, .Constant .none jj p2] X.env = (false, eval (.Name x p1) X.env) :: starEach [.Constant .none jj p2] X.env := by rfl) (hs2 : starEach [.Constant .none jj p2] X.env = (false, eval (.Constant .none jj p2) X.env) :: starEach [] X.env := by rfl) :
    DM X B (.Tuple [.Name x p1, .Constant .none jj p2] k pos) pin (.own (n + 1)) (fun ρ R => mTake i n ρ fun d ρ1 => R (.tup [d, .non]) ρ1) :=
  PE.imp (pe_tup (pa_cons (pe_var hN.1 hN.2 hN.3 hN.4) (pa_cons pe_non pa_nil hs2) hs)) fun σ H Q ⟨Pn, Z0, F0, F, ρ, fp, R, hpl, S, hf, k⟩ => by
    obtain ⟨d, q, hR⟩ := mTake_inv (show mTake i n ρ _ from hf)
    obtain ⟨v, f, fp1, e1, o1, S1, ap1, sub1⟩ := S.take q
    refine ⟨v, e1, by show 2 ≤ sizeLine; decide, fun p hp => ?_⟩
    have st := Step.laidF (A := []) S1.wf hp (o := .tup [v, .non]) rfl
    have S3 := S1.step st fun a h => (by cases h)
    have np : ∀ a ∈ f, a ≠ p := fun a ha z => by
      obtain ⟨ob, eo, _⟩ := o1.there a ha
      rw [z, hp] at eo; cases eo
    have on : Own X.K (upd F p (.tup [v, .non])) (upd H p (.tup [v, .non])) n .non .non [] := by cases n <;> exact ⟨.non, rfl⟩
    refine k _ _ _ fp1 (.ref p) (.tup [d, .non]) f S3 ⟨p, [v, .non], rfl, upd_same, f, [], (List.append_nil f).symm, Own.mono st.fs (fun a ha o eo => by rw [upd_ne (np a ha)]; exact eo) o1, [], [], rfl, on, rfl⟩ ⟨fun a ha => ?_, ap1.2⟩ hR
    obtain ⟨r1, r2, r3, r4⟩ := ap1.1 a ha
    refine ⟨?_, r2, r3, r4⟩
    rw [upd_ne (np a ha)]; exact r1
/-- x, y = e, what e gives is owned -/
theorem ds_asgO {e : Expr} {f : FM} {k : Nat} (i j n : Nat) (hc : X.calm = true) (he : DM X B e pin (.own (n + 1)) f) (hN : X.N.Nodup) (hi : X.N[i]? = some x) (hx : Loc X.env.scope x) (hp : pin ≤ i) (hj : X.N[j]? = some y) (hy : Loc X.env.scope y) (hp2 : pin ≤ j)
    (hs : swapsWithSole [.Tuple [.Name x p1, .Name y p2] k pos] e pos'.line X.env = pure false := by rfl) (hw : swappedStores [.Tuple [.Name x p1, .Name y p2] k pos] e X.env = pure none := by rfl)
    (h1 : (assignEach [.Tuple [.Name x p1, .Name y p2] k pos] X.env).map (·.2) = [assign (.Tuple [.Name x p1, .Name y p2] k pos) X.env] := by rfl)
    (hf1 : X.fn x = true ∨ X.env.scope.names.lookup x = some .local := by first | exact .inl rfl | exact .inr rfl | assumption) (hf2 : X.fn y = true ∨ X.env.scope.names.lookup y = some .local := by first | exact .inl rfl | exact .inr rfl | assumption)
    (hs1 : (assignEach [.Name x p1, .Name y p2] X.env).map (·.2) = assign (.Name x p1) X.env :: (assignEach [.Name y p2] X.env).map (·.2) := by rfl) (hs2 : (assignEach [.Name y p2] X.env).map (·.2) = assign (.Name y p2) X.env :: (assignEach [] X.env).map (·.2) := by rfl)
    (hn : (assignEach [.Name x p1, .Name y p2] X.env).length = 2 := by rfl) (hst : (assignEach [.Name x p1, .Name y p2] X.env).findIdx? (·.1) = none := by rfl) :
    DS X B (.Assign [.Tuple [.Name x p1, .Name y p2] k pos] e pos') pin mr (fun E ρ => f ρ fun d ρ' => ∃ a b, d = .tup [a, b] ∧ i < ρ'.length ∧ j < ρ'.length ∧ E.nx ((ρ'.set i (some (n, a))).set j (some (n, b)))) :=
  PS.imp (ps_asg he (pg_tup hc (pgs_cons (pg_name hN hi hx hf1) (pgs_cons (pg_name hN hj hy hf2) pgs_nil hs2) hs1) hn hst) hs hw h1) fun Dn σ H ⟨Pn, Z0, F0, F, ρ, fp, E, hpl, S, hf, L⟩ => by
    refine ⟨Pn, Z0, F0, F, ρ, fp, _, hpl, S, hf, fun F' H' ρ' fp' v d f' S' hv ap ⟨a, b, ed, li, lj, hR⟩ => ?_⟩
    subst ed
    obtain ⟨p, vs, rfl, hp', ow⟩ := (show Own X.K F' H' (n + 1) v (.tup [a, b]) f' from hv)
    match vs, ow with
    | [v1, v2], ⟨f1, f2, ef, o1, f3, f4, ef2, o2, ef3⟩ =>
      have ef3 : f4 = [] := ef3
      subst ef3
      rw [List.append_nil] at ef2
      subst ef2
      subst ef
      obtain ⟨nd1, nd2, nd3⟩ := List.nodup_append.mp ap.2
      obtain ⟨fp1, S1, sub1⟩ := S'.setS o1 (i := i) ⟨fun a ha => ap.1 a (List.mem_append_left _ ha), nd1⟩ li (by omega)
      obtain ⟨fp2, S2, sub2⟩ := S1.setS o2 (i := j) ⟨fun a ha => by
        obtain ⟨r1, r2, r3, r4⟩ := ap.1 a (List.mem_append_right _ ha)
        exact ⟨r1, r2, r3, fun z => (sub1 a z).elim r4 fun z => nd3 a z a ha rfl⟩, nd2⟩ (by rw [List.length_set]; exact lj) (by omega)
      exact ⟨p, [v1, v2], rfl, tup_sub S'.wf hp', rfl, v1, [v2], rfl, v2, [], rfl, rfl, L.nx F' H' _ _ fp2 S2 hR⟩
/-- {k: v} -/
theorem de_disp1 {ek ev : Expr} {f f' : FE} (hk : DE X B ek (.own 0) f) (hv : DE X B ev (.own 0) f') : DE X B (.Dict [some ek] [ev] pos) (.own 1) (fun ρ R => f ρ fun kd => f' ρ fun vd => ∃ k, keyOf kd = some k ∧ R (.dK [(k, vd)])) :=
  PE.imp (pe_disp (pps_cons hk hv pps_nil) rfl rfl (by simp) (by simp)) fun σ H Q ⟨F, ρ, fp, R, S, hf, k⟩ p hp => by
    have s0 := Step.laid (A := []) S.wf hp (o := .dK []) rfl
    have S0 := S.step s0 fun a h => (by cases h)
    have pB := S.wf.notB hp
    have pF := F_none S.wf hp
    refine ⟨F, ρ, fp, _, S0, hf, fun F1 H1 kv kd f1 s1 hkv o1 n1 hg => ⟨F1, ρ, fp, _, S0.step s1 (fun a h => by cases h), hg, fun F2 H2 vv vd f2 s2 hvv o2 n2 ⟨key, ek, hR⟩ => ?_⟩⟩
    have e1 := s1.same p _ pB upd_same
    have e2 := s2.same p _ pB e1
    have pF1 := s1.out upd_same trivial pB pF (fun z => by cases z)
    have pF2 := s2.out e1 trivial pB pF1 (fun z => by cases z)
    have hkv : GK.R X.K F1 kv kd := (show Own X.K F1 H1 0 kv kd f1 from hkv).1
    have hvv : GK.R X.K F2 vv vd := (show Own X.K F2 H2 0 vv vd f2 from hvv).1
    refine ⟨e2, [(key, vv)], ?_, by simp, ?_⟩
    · rw [keyOf_R ek hkv]; rfl
    · have st := ((s0.trans s1 fun a h => by cases h).trans s2 fun a h => by cases h).mutNew hp pF2 pB (o := .dK (mergeK [] [(key, vv)])) rfl
      refine k F2 _ (.ref p) (.dK [(key, vd)]) [p] st ⟨p, [(key, vv)], [], rfl, upd_same, rfl, rfl, OwnL.zero (.cons hvv .nil)⟩ (fun a ha => ?_) (by simp) hR
      rw [List.mem_singleton.mp ha]
      exact ⟨.inr hp, pF2, pB⟩
end
end GK

namespace GK
open PySem PySem.Spec PyProof.Rows L2

/-! ### xs[::-1]; list of a list or a tuple; is True, is False -/
section
variable {X : Cx} {e : Expr} {p p1 p2 p3 pos : Pos} {m m1 : Mode} {f : FE} {k : Nat}
theorem de_revL (he : DE X B e m1 f) (h1 : m1.flat1 = true := by rfl) : DE X B (.Subscript e (.Slice none none (some (.UnaryOp .USub (.Constant (.int 1) k p1) p2)) p3) pos) (.own 1) (fun ρ R => f ρ (xsOf fun ds => R (.lst ds.reverse))) :=
  PE.imp (pe_revL he) fun σ H Q ⟨F, ρ, fp, R, S, hf, k⟩ => by
    refine ⟨F, ρ, fp, _, S, hf, fun F1 H1 v d f1 s1 hv o1 n1 hd => ?_⟩
    cases d <;> try exact (show False from hd).elim
    obtain ⟨a, vs, rfl, ha, r⟩ := hv.lstRL h1 s1.wf
    exact ⟨a, vs, rfl, SqL.of ha, fun q hq => (k.after s1 (A1 := []) fun a h => by cases h).newLst0 s1.wf r.reverse hd hq⟩
def gListU : List D → (D → Prop) → Prop
  | [.lst ds], R => R (.lst ds)
  | [.tup ds], R => R (.lst ds)
  | _, _ => False
theorem opN_listU {K : PySem.W.Frag} : OpN K (fun xs H Q => ∃ p ys, xs = [.ref p] ∧ (SqL K H p ys ∨ SqT K H p ys) ∧ ∀ l, H l = none → Q (.ref l) (upd H l (.lst ys))) [.own 0] (.own 1) gListU := by
  intro B F H vs ds fp R Q w hv hf hg k
  unfold gListU at hg
  split at hg
  · obtain ⟨v, rfl, h⟩ := hv.one
    obtain ⟨a, xs, rfl, ha, r⟩ := (show GK.R K F v _ from h.1).lstI
    exact ⟨a, xs, rfl, .inl (sqL_rd (w.sub _ _ ha)), fun l hl => k.newLst0 w r hg hl⟩
  · obtain ⟨v, rfl, h⟩ := hv.one
    obtain ⟨a, xs, rfl, ha, r⟩ := (show GK.R K F v _ from h.1).tupI
    exact ⟨a, xs, rfl, .inr (sqT_rd (w.sub _ _ ha)), fun l hl => k.newLst0 w r hg hl⟩
  · exact hg.elim
theorem de_listU (hz : X.mg "list" = none) (ha : DE X B e (.own 0) f) (hg : Gl X "list" := by rfl) (he : starEach [e] X.env = (false, eval e X.env) :: starEach [] X.env := by rfl) (hpl : (backTo pos (starEach [] X.env)).any (·.1) = false := by rfl) :
    DE X B (.Call (.Name "list" p) [e] [] pos) (.own 1) (fArgs gListU (fCons f fNil)) := de_Ty call_list_of opN_listU hg hz (by decide +kernel) (da_cons ha da_nil he) (by decide) (by decide) he hpl
end
end GK
namespace GK
open PySem PySem.Spec PyProof.Rows L2
theorem de_isiK {X : Cx} {e e2 : Expr} {p pos : Pos} {m m1 m2 : Mode} {f f' : FE} (K : PySem.W.Frag) (hK : X.K = K) (hz : X.mg "isinstance" = none) (ha : DE X B e m1 f) (hb : DE X B e2 m2 f') (hm : m1.look = true := by rfl) (hg : Gl X "isinstance" := by rfl) (he : starEach [e, e2] X.env = (false, eval e X.env) :: starEach [e2] X.env := by rfl) (he2 : starEach [e2] X.env = (false, eval e2 X.env) :: starEach [] X.env := by rfl) (hpl : (backTo pos (starEach [e2] X.env)).any (·.1) = false := by rfl) :
    DE X B (.Call (.Name "isinstance" p) [e, e2] [] pos) m (fArgs (gIsi K) (fCons f (fCons f' fNil))) := by
  subst hK
  exact de_isi hz ha hb hm hg he he2 hpl
end GK

namespace GK
open PySem PySem.Spec PyProof.Rows L2

/-! ### small steps through data -/
theorem szL : sizeLine = 16777216 := by decide
theorem draw_go {B : List Addr} {b : Addr} {size : Int} {R : D → Prop} (hb : B.head? = some b) (h0 : 0 < size) (h1 : size < 2 ^ 64) (h : ∀ r : Int, 0 ≤ r → r < size → R (.int r)) : wDraw B [.raw (.ref b), .int size] R := by
  refine ⟨b, size, hb, rfl, h0, ?_, h⟩
  have : size.natAbs.log2 < 64 := (Nat.log2_lt (by omega)).mpr (by omega)
  omega
abbrev natD (i : Nat) : D := .int (i : Int)
theorem ixN_nat {n k : Nat} (h : k < n) : ixN n (k : Int) = some k := by
  unfold ixN
  rw [if_pos (by omega), if_pos (by omega)]; rfl
theorem ixN_int {n : Nat} {i : Int} (h0 : 0 ≤ i) (h1 : i < n) : ixN n i = some i.toNat := by
  unfold ixN
  rw [if_pos h0, if_pos h1]
theorem gIx_tl {xs : List D} {k : Nat} {d : D} {R : D → Prop} (h : xs[k]? = some d) (q : R d) : gIx (.tup xs) (.int (k : Int)) R := by
  refine ⟨d, ?_, q⟩
  have hk := (List.getElem?_eq_some_iff.mp h).1
  unfold atI
  rw [ixN_nat hk]; exact h
/-- a list or a tuple of these -/
def isSeq (d : D) (xs : List D) : Prop := d = .lst xs ∨ d = .tup xs
theorem gIx_seq {e : D} {xs : List D} {k : Nat} {d : D} {R : D → Prop} (s : isSeq e xs) (h : xs[k]? = some d) (q : R d) : gIx e (.int (k : Int)) R := by
  rcases s with rfl | rfl
  · exact gIx_nat h q
  · exact gIx_tl h q
theorem gIx_last {ds : List D} {x : D} {R : D → Prop} (q : R x) : gIx (.lst (ds ++ [x])) (.int (-1)) R := by
  refine ⟨x, ?_, q⟩
  unfold atI ixN
  rw [if_neg (by decide), if_pos (by rw [List.length_append, List.length_singleton]; omega)]
  show (ds ++ [x])[(-1 + ((ds ++ [x]).length : Int)).toNat]? = some x
  have e : (-1 + ((ds ++ [x]).length : Int)).toNat = ds.length := by rw [List.length_append, List.length_singleton]; omega
  rw [e]
  simp
theorem gIx_t2 {a b c : D} {r : List D} {R : D → Prop} : gIx (.tup (a :: b :: c :: r)) (.int 2) R = R c := by
  show (∃ d, atI (a :: b :: c :: r) 2 = some d ∧ R d) = R c
  rw [atI_2]; exact ex_some
theorem rangeD0 (n : Nat) : rangeD 0 n = (List.range n).map natD := by
  unfold rangeD
  refine List.map_congr_left fun i _ => ?_
  show D.int (0 + (i : Int)) = D.int (i : Int)
  rw [Int.zero_add]
theorem gEqA_no {n : Bool} {i : Int} {R : D → Prop} : gEqA n .non (.int i) R = R (.bl (n ^^ false)) := rfl
theorem gIsN_lst {n : Bool} {es : List D} {R : D → Prop} : gIsN n (.lst es) .non R = R (.bl n) := rfl
theorem gIsN_tup {n : Bool} {es : List D} {R : D → Prop} : gIsN n (.tup es) .non R = R (.bl n) := rfl
theorem enOf_seq {e : D} {xs : List D} {R : List D → Prop} (s : isSeq e xs) (q : R (enumL xs)) : enOf R e := by
  rcases s with rfl | rfl <;> exact q
theorem enumL_cons' {xs : List D} {k : Nat} {x : D} {r : List D} (h : xs.drop k = x :: r) : (enumL xs).drop k = .tup [natD k, x] :: (enumL xs).drop (k + 1) := by
  have hk : k < xs.length := by
    have := congrArg List.length h
    rw [List.length_drop, List.length_cons] at this
    omega
  have hx : xs[k]? = some x := by
    have := congrArg (fun l => l[0]?) h
    rw [List.getElem?_drop] at this
    simpa using this
  have hl : k < (enumL xs).length := by rw [enumL_len]; exact hk
  rw [List.drop_eq_getElem_cons hl]
  congr 1
  have e := enumL_get hx
  rw [List.getElem?_eq_getElem hl] at e
  exact Option.some.inj e
theorem dnE {x y : Nat} : decide ((x : Int) = (y : Int)) = decide (x = y) := by
  by_cases h : x = y
  · rw [decide_eq_true h, decide_eq_true (by rw [h])]
  · rw [decide_eq_false h, decide_eq_false (by omega)]
theorem dnL {x y : Nat} : decide ((x : Int) < (y : Int)) = decide (x < y) := by
  by_cases h : x < y
  · rw [decide_eq_true h, decide_eq_true (by omega)]
  · rw [decide_eq_false h, decide_eq_false (by omega)]
theorem neg_go {i : Int} {R : D → Prop} (q : R (.int (-i))) : g1I (fun i => .int (-i)) (.int i) R := q
end GK
namespace GK
open PySem PySem.Spec PyProof.Rows L2
theorem rng_go {n : Nat} {R : List D → Prop} (h : n < 2 ^ 62) (q : R ((List.range' 0 n).map natD)) : rng1 R (.int (n : Int)) := by
  refine ⟨by omega, by omega, ?_⟩
  rw [Int.toNat_natCast, rangeD0, List.range_eq_range']
  exact q
theorem rng2_go {a b : Nat} {R : List D → Prop} (h : a < 2 ^ 62) (h2 : b < 2 ^ 62) (q : R ((List.range' a (b - a)).map natD)) : rng2 R (.int (a : Int)) (.int (b : Int)) := by
  refine ⟨⟨by omega, by omega, by omega, by omega⟩, ?_⟩
  have e : rangeD (a : Int) ((b : Int) - (a : Int)).toNat = (List.range' a (b - a)).map natD := by
    rw [show ((b : Int) - (a : Int)).toNat = b - a by omega]
    unfold rangeD
    rw [List.range'_eq_map_range, List.map_map]
    refine List.map_congr_left fun i _ => ?_
    show D.int ((a : Int) + (i : Int)) = D.int ((a + i : Nat) : Int)
    rw [Int.natCast_add]
  rw [e]; exact q
end GK
namespace GK
open PySem PySem.Spec PyProof.Rows L2
theorem atP_go {ρ : Env} {i n : Nat} {p : List PSt} {d x : D} {k : Nat → D → D → Prop} (e : slot ρ i = some (n + 1 + p.length, d)) (h : subP d p = some x) (q : k n d x) : atP ρ i p k := by
  unfold atP
  rw [e]
  exact ⟨n, x, rfl, h, q⟩
theorem atLst_go {ρ : Env} {i n : Nat} {p : List PSt} {d : D} {ds : List D} {k : D → List D → Prop} (e : slot ρ i = some (n + 1 + p.length, d)) (h : subP d p = some (.lst ds)) (q : k d ds) : atLst ρ i n p k := atP_go e h ⟨rfl, q⟩
theorem sub_ix {ds : List D} {k : Nat} {d : D} (h : ds[k]? = some d) : subP (.lst ds) [.ix k] = some d := by
  show (ds[k]?).bind _ = _
  rw [h]; rfl
theorem set_ix {ds : List D} {k : Nat} {d x : D} (h : ds[k]? = some d) : setP (.lst ds) [.ix k] x = .lst (ds.set k x) := by
  unfold setP
  rw [show subD (.lst ds) (.ix k) = some d from h]
  rfl
theorem fm_const {Z : Type} {x : D} : ∀ (l : List Z), l.filterMap (fun _ => some x) = List.replicate l.length x
  | [] => rfl
  | z :: l => by rw [List.filterMap_cons, fm_const l, List.length_cons, List.replicate_succ]
end GK
namespace GK
open PySem PySem.Spec PyProof.Rows L2
theorem drawN {B : List Addr} {b : Addr} {R : D → Prop} (s : Nat) (hb : B.head? = some b) (h0 : 0 < s) (h1 : s < 2 ^ 62) (h : ∀ r : Nat, r < s → R (natD r)) : wDraw B [.raw (.ref b), .int (s : Int)] R :=
  draw_go hb (by omega) (by omega) fun r r0 r1 => by
    have := h r.toNat (by omega)
    rwa [show natD r.toNat = .int r from congrArg D.int (Int.toNat_of_nonneg r0)] at this
theorem iOf_int {R : Option Int → Prop} {i : Int} : iOf R (.int i) = R (some i) := rfl
theorem gSlL_to {ds : List D} {k : Nat} {R : D → Prop} (h : k ≤ ds.length) : gSlL (.lst ds) none (some (k : Int)) R = R (.lst (ds.take k)) := by
  show R (.lst (cutD ds none (some (k : Int)))) = _
  unfold cutD
  rw [HT.sIx_none, HT.sIx_nat, List.drop_zero, Nat.sub_zero, Nat.min_eq_left h]
theorem fm_none {Z : Type} : ∀ (l : List Z), l.filterMap (fun _ => (none : Option D)) = []
  | [] => rfl
  | z :: l => fm_none l
theorem gSum_ints {ns : List Int} {R : D → Prop} (q : R (.int ns.sum)) : gSum [.lst (ns.map D.int)] R := by
  refine ⟨ns, ?_, q⟩
  induction ns with
  | nil => rfl
  | cons n ns ih =>
    show (intsOf (ns.map D.int)).map (n :: ·) = _
    have : intsOf (ns.map D.int) = some ns := by
      clear ih q
      induction ns with
      | nil => rfl
      | cons m ms ih2 => show (intsOf (ms.map D.int)).map (m :: ·) = _; rw [ih2]; rfl
    rw [this]; rfl
theorem any_nats {x : Nat} : ∀ {ys : List Nat}, ((ys.map natD).any fun z => eqF z (natD x)) = decide (x ∈ ys)
  | [] => rfl
  | y :: ys => by
    rw [List.map_cons, List.any_cons, any_nats]
    show (((y : Int) == (x : Int)) || decide (x ∈ ys)) = decide (x ∈ y :: ys)
    by_cases h : y = x
    · subst h; simp
    · have h2 : ¬ (y : Int) = (x : Int) := fun z => h (Int.ofNat.inj z)
      have h3 : ((y : Int) == (x : Int)) = false := by simp [h2]
      rw [h3, Bool.false_or]
      by_cases m : x ∈ ys
      · rw [decide_eq_true m, decide_eq_true (List.mem_cons_of_mem _ m)]
      · rw [decide_eq_false m, decide_eq_false (fun z => (List.mem_cons.mp z).elim (fun z => h z.symm) m)]
theorem gIn_nats {x : Nat} {ys : List Nat} {R : D → Prop} (q : R (.bl (decide (x ∈ ys)))) : gIn false (natD x) (.lst (ys.map natD)) R := by
  refine ⟨_, rfl, rfl, ?_, ?_⟩
  · rw [List.all_map]
    exact List.all_eq_true.mpr fun y _ => rfl
  · rw [Bool.false_xor]
    rw [any_nats]; exact q
end GK
namespace GK
open PySem PySem.Spec PyProof.Rows L2
mutual
theorem eqv_self : ∀ d : D, PyData.eqv (toP d) (toP d) = true
  | .non => by rw [toP]; rfl
  | .bl b => by simp [toP, PyData.eqv]
  | .int i => by simp [toP, PyData.eqv]
  | .str x => by simp [toP, PyData.eqv]
  | .raw v => by rw [toP]; rfl
  | .dK v => by rw [toP]; rfl
  | .dT v => by rw [toP]; rfl
  | .obj C v => by rw [toP]; rfl
  | .tup xs => by rw [toP, PyData.eqv]; exact eqvs_self xs
  | .lst xs => by rw [toP, PyData.eqv]; exact eqvs_self xs
theorem eqvs_self : ∀ ds : List D, PyData.eqvAll (toPs ds) (toPs ds) = true
  | [] => by rw [toPs]; rfl
  | d :: ds => by rw [toPs, PyData.eqvAll, eqv_self d, eqvs_self ds]; rfl
end
theorem okDs_all {n : Nat} : ∀ {ds : List D}, (∀ d ∈ ds, okD n d = true) → okDs n ds = true
  | [], _ => rfl
  | d :: ds, h => by
    rw [okDs, h d List.mem_cons_self, okDs_all fun x hx => h x (List.mem_cons_of_mem _ hx)]; rfl
theorem eqD_self {n : Bool} {d : D} {R : D → Prop} (h : okD 60 d = true) (q : R (.bl (n ^^ true))) : gEqD n d d R := ⟨h, h, by
  unfold eqvD
  rw [eqv_self]; exact q⟩
end GK
namespace GK
theorem gListL_lst {ds : List D} {R : D → Prop} : gListL [.lst ds] R = R (.lst ds) := rfl
theorem gTupL_lst {ds : List D} {R : D → Prop} : gTupL [.lst ds] R = R (.tup ds) := rfl
theorem gListU_lst {ds : List D} {R : D → Prop} : gListU [.lst ds] R = R (.lst ds) := rfl
theorem gListU_tup {ds : List D} {R : D → Prop} : gListU [.tup ds] R = R (.lst ds) := rfl
end GK

namespace GK
open PySem PySem.Spec PyProof.Rows L2

/-! ### walking a list or a tuple; an item of a new tuple of what is owned; xs.index(x) -/
def iSeqU (K : PySem.W.Frag) (tl : TE) : TI := fun σ H R => tl σ H fun x H1 => ∃ a xs, x = .ref a ∧ ((SqL K H1 a xs ∧ R (Itl K a) H1) ∨ (SqT K H1 a xs ∧ R (Itt K a) H1))
theorem pi_seqU {X : Cx} {tg l : Expr} {tl : TE} (hl : PE X l tl) : PI X tg l (iSeqU X.K tl) := ⟨fun pins s σ H R I h => by
  refine thn (hl.run pins s σ H _ I h) fun v s1 ⟨x, H1, I1, r1, a, xs, ex, q⟩ => ?_
  subst ex
  cases r1
  have fpo : ∀ b ∈ [s1.heap.objs.size], s1.heap.objs.size ≤ b := fun b hb => Nat.le_of_eq (List.mem_singleton.mp hb).symm
  rcases q with ⟨hq, q⟩ | ⟨hq, q⟩
  · obtain ⟨its, rv, p, hz⟩ := I1.list hq
    exact wpAny_pyIter_list p.isList ⟨s1.heap.objs.size, [s1.heap.objs.size], _, _, H1, rfl, I1.kept (t' := s1.toks) (fun b o e => Heap.get?_push_of_some _ e), turn_list a _, ⟨_, Heap.get?_push_size _ rfl, rfl, rfl⟩, fun b hb => I1.fpOk (fpo b hb) (I1.hok.fresh (fpo b hb)), q⟩
  · obtain ⟨its, rv, p, hz⟩ := I1.tuple hq
    exact wpAny_pyIter_tuple (show s1.heap.IsTuple a its.toArray from p) ⟨s1.heap.objs.size, [s1.heap.objs.size], _, _, H1, rfl, I1.kept (t' := s1.toks) (fun b o e => Heap.get?_push_of_some _ e), turn_tuple a _, ⟨_, Heap.get?_push_size _ rfl, rfl, rfl⟩, fun b hb => I1.fpOk (fpo b hb) (I1.hok.fresh (fpo b hb)), q⟩⟩
theorem di_seqU {X : Cx} {tg e : Expr} {f : FE} (h : DE X B e (.own 0) f) : DI X B tg e (fun ρ R => f ρ (seqOf R)) := PI.imp (pi_seqU h) fun σ H R ⟨F, ρ, fp, Rx, S, hf, k⟩ => ⟨F, ρ, fp, _, S, hf, fun F1 H1 v d f1 s1 hv o1 n1 hR => by
  have S1 := outF (S.step s1 fun a h => by cases h)
  have hv : GK.R X.K F1 v d := (show Own X.K F1 H1 0 v d f1 from hv).1
  cases d <;> try exact (show False from hR).elim
  · obtain ⟨a, vs, rfl, h1, r⟩ := hv.tupI
    exact ⟨a, vs, rfl, .inr ⟨tup_sub s1.wf h1, k _ F1 H1 _ s1 (itD_tup S1 s1.wf h1 r) hR⟩⟩
  · obtain ⟨a, vs, rfl, h1, r⟩ := hv.lstI
    exact ⟨a, vs, rfl, .inl ⟨lst_sub s1.wf h1, k _ F1 H1 _ s1 (itD_list S1 s1.wf h1 r) hR⟩⟩⟩
theorem seqOf_seq {e : D} {xs : List D} {R : List D → Prop} (s : isSeq e xs) (q : R xs) : seqOf R e := by
  rcases s with rfl | rfl <;> exact q
/-- an item of a tuple of what is owned -/
theorem OwnL.pick {P : V → D → List Addr → Prop} : ∀ {vs : List V} {ds : List D} {f : List Addr} {i : Nat} {d : D}, OwnL P vs ds f → f.Nodup → ds[i]? = some d → ∃ v g, vs[i]? = some v ∧ P v d g ∧ g.Nodup ∧ ∀ a ∈ g, a ∈ f
  | [], [], _, i, d, _, _, e => by simp at e
  | v :: vs, x :: ds, f, 0, d, ⟨f1, f2, ef, h, t⟩, nd, e => by
    have e : x = d := Option.some.inj e
    subst e
    subst ef
    exact ⟨v, f1, rfl, h, (List.nodup_append.mp nd).1, fun a ha => List.mem_append_left _ ha⟩
  | v :: vs, x :: ds, f, i + 1, d, ⟨f1, f2, ef, h, t⟩, nd, e => by
    subst ef
    obtain ⟨w, g, h1, h2, h3, h4⟩ := OwnL.pick (i := i) t (List.nodup_append.mp nd).2.1 e
    exact ⟨w, g, h1, h2, h3, fun a ha => List.mem_append_right _ (h4 a ha)⟩
theorem op2_ixO {K : PySem.W.Frag} {m2 : Mode} {n : Nat} : Op2 K (rIx K) (.own (n + 1)) m2 (.own n) gIxT := by
  intro B F H x y d e fp R Q w ⟨f1, f2, ef, h1, h2⟩ hf hg k
  subst ef
  cases d <;> cases e <;> try exact (show False from hg).elim
  obtain ⟨c, hc, hR⟩ := hg
  obtain ⟨rfl, _⟩ := h2.int
  obtain ⟨a, vs, rfl, ha, ol⟩ := (show Own K F H (n + 1) x (.tup _) f1 from h1)
  obtain ⟨j, e1, e2⟩ := atI_same ol.len hc
  obtain ⟨v, g, q1, q2, q3, q4⟩ := ol.pick (List.nodup_append.mp hf.2).1 e1
  refine .inr (.inl ⟨a, vs, _, v, rfl, rfl, tup_sub w ha, e2 v q1, ?_⟩)
  exact k F H v c g (Step.refl w) q2 (fun b hb => ⟨.inl (List.mem_append_left _ (q4 b hb)), hf.1 b (List.mem_append_left _ (q4 b hb))⟩) q3 hR
theorem de_atO {X : Cx} {a b : Expr} {pos : Pos} {m2 : Mode} {n : Nat} {f f' : FE} (ha : DE X B a (.own (n + 1)) f) (hb : DE X B b m2 f') (hs : PlainIx b := by exact fun _ _ => rfl) : DE X B (.Subscript a b pos) (.own n) (fBin gIxT f f') := de_ix ix_seq op2_ixO ha hb hs
theorem gIxT_1 {a b : D} {R : D → Prop} : gIxT (.tup [a, b]) (.int 1) R = R b := by
  show (∃ d, atI (a :: b :: []) 1 = some d ∧ R d) = R b
  rw [atI_1]; exact ex_some
/-- xs.index(x) -/
def gIndex (d : D) (ds : List D) (R : D → Prop) : Prop := ∃ (xs : List D) (x y : D) (j : Nat), d = .lst xs ∧ ds = [x] ∧ flD x = true ∧ xs.all flD = true ∧ xs[j]? = some y ∧ eqF y x = true ∧ (∀ m z, m < j → xs[m]? = some z → eqF z x = false) ∧ R (natD j)
theorem opM_index {K : PySem.W.Frag} {m1 m2 m : Mode} (hm : m1.look = true) : OpM K "list" (rIndex K) m1 [m2] m (fun d => ∃ xs, d = .lst xs) gIndex := by
  refine ⟨fun B F H x d fp w hx hf ⟨xs, e⟩ => ?_, fun B F H x d vs ds fp R Q w ⟨f1, f2, ef, h1, h2⟩ hf ⟨xs, u, y, j, e1, e2, e3, e4, e5, e6, e7, hR⟩ k => ?_⟩
  · subst e
    obtain ⟨_, a, vs, rfl, hs, it⟩ := hx.lst hm w
    exact .inl ⟨rfl, vs, hs⟩
  · subst e1
    subst e2
    obtain ⟨v, rfl, hv⟩ := h2.one
    obtain ⟨_, a, ws, rfl, hs, it⟩ := h1.lst hm w
    have ev := hv.fl e3
    have ew := it.fl e4
    subst ev
    subst ew
    refine ⟨a, _, flV u, j, flV y, rfl, rfl, hs, flV_flat u, ?_, ?_, ?_, fun m z hm hz => ?_, k.int w hR⟩
    · rw [List.all_map]
      exact List.all_eq_true.mpr fun z _ => flV_flat z
    · rw [List.getElem?_map, e5]; rfl
    · rw [eqF_V (List.all_eq_true.mp e4 y (List.mem_of_getElem? e5)) e3]; exact e6
    · rw [List.getElem?_map] at hz
      obtain ⟨z', hz', rfl⟩ := Option.map_eq_some_iff.mp hz
      rw [eqF_V (List.all_eq_true.mp e4 z' (List.mem_of_getElem? hz')) e3]
      exact e7 m z' hm hz'
theorem de_index {X : Cx} {o e : Expr} {apos cpos : Pos} {m m1 m2 : Mode} {f f' : FE} (ho : DE X B o m1 f) (he : DE X B e m2 f') (hm : m1.look = true := by rfl) (hs : starEach [e] X.env = (false, eval e X.env) :: starEach [] X.env := by rfl) (hb : BmOk X o "index" apos e [] cpos := by exact ⟨rfl, rfl, rfl, rfl, rfl⟩) :
    DE X B (.Call (.Attribute o "index" apos) [e] [] cpos) m (fun ρ R => f ρ fun d => (∃ xs, d = .lst xs) ∧ fArgs (fun ds R => gIndex d ds R) (fCons f' fNil) ρ R) :=
  de_M PySem.F.plainAttrs_list PySem.F.slot_list_index PySem.F.type_list_index mt_index (opM_index hm) ho (da_cons he da_nil hs) hb
end GK

namespace GK
open PySem PySem.Spec PyProof.Rows L2
/-- d.clear() -/
theorem dm_dclear {X : Cx} {pin : Nat} {x : Str} {p apos cpos : Pos} (i n : Nat) (hN : NameOk X i x := by exact ⟨rfl, by first | exact Or.inl rfl | exact Or.inr (Or.inl rfl) | exact Or.inr (Or.inr rfl), by decide, by decide⟩) (hb : Bm0Ok X (.Name x p) "clear" apos cpos := by exact ⟨rfl, rfl⟩) :
    DM X B (.Call (.Attribute (.Name x p) "clear" apos) [] [] cpos) pin (.own 0) (fun ρ R => ownDK ρ i n fun _ => R .non (ρ.set i (some (n + 1, .dK [])))) :=
  PE.imp (pe_dclear (pe_var hN.1 hN.2 hN.3 hN.4) hb.1 hb.2) fun σ H Q ⟨Pn, Z0, F0, F, ρ, fp, R, hpl, S, hf, k⟩ => by
    obtain ⟨ds, e0, hR⟩ := hf.inv
    obtain ⟨a, kvs, g, h1, h2, hk, h3, h4, h5, h6, kk⟩ := S.dK e0
    obtain ⟨fp2, S2⟩ := kk [] [] [] [] Apart.nil (fun b hb => by cases hb) List.nodup_nil rfl rfl
    exact ⟨_, h1, .inr (.inr (.inl ⟨rfl, .inl ⟨_, h2⟩⟩)), a, kvs, rfl, rfl, h2, k F _ _ fp2 .non .non [] S2 (Val.atom rfl fun _ => .non) Apart.nil hR⟩
section
variable {X : Cx} {e : Expr} {lo hi : Option Expr} {pos p2 : Pos} {m m1 : Mode} {f : FE} {fl fh : FO}
/-- t[lo:hi], not the whole of it -/
def gSlTp (d : D) (lo hi : Option Int) (R : D → Prop) : Prop := match d with
  | .tup xs => ¬ (HT.sIx xs.length 0 lo = 0 ∧ HT.sIx xs.length xs.length hi = xs.length) ∧ R (.tup (cutD xs lo hi))
  | _ => False
theorem de_slT (he : DE X B e (.own 0) f) (hl : DO X B lo fl) (hh : DO X B hi fh) : DE X B (.Subscript e (.Slice lo hi none p2) pos) (.own 0) (fun ρ R => f ρ fun d => fl ρ fun lo => fh ρ fun hi => gSlTp d lo hi R) :=
  PE.imp (pe_slice sl_tup he hl hh) fun _ _ _ q => tD_slice (m := .own 0) (r := rSlT X.K) (g := gSlTp) (by
    intro B F H x d fp lo hi R Q w hv hf hg k
    cases d <;> try exact (show False from hg).elim
    obtain ⟨hw, hg⟩ := hg
    obtain ⟨a, xs, rfl, ha, r⟩ := (show GK.R X.K F x _ from hv.1).tupI
    rw [← r.length] at hw
    exact ⟨a, xs, rfl, sqT_rd (w.sub _ _ ha), hw, fun l hl => k.newTup w (cut_rl r lo hi) hg hl⟩) q
end
end GK

namespace GK
open PySem PySem.Spec PyProof.Rows L2
/-- len(d), whatever its keys -/
def gLenD : List D → (D → Prop) → Prop
  | [.dK es], R => R (.int es.length)
  | [.dT es], R => R (.int es.length)
  | _, _ => False
section
variable {X : Cx} {e e2 : Expr} {x : Str} {p pos apos cpos : Pos} {m m1 m2 : Mode} {fs : FA} {f f' : FE}
theorem call_lenT : CallR X (.builtin "len") (fun xs H Q => ∃ a kvs, xs = [.ref a] ∧ Rd H a (.dT kvs) ∧ Q (.int kvs.length) H) := by
  intro pins s σ H xs us Q I r h
  obtain ⟨p, kvs, rfl, hp, q⟩ := h
  obtain ⟨u, rfl, rx⟩ := r.one
  obtain rfl : u = .ref p := rx
  obtain ⟨z, hd, ys, rel, dd⟩ := dt_rd I.hok hp
  have hl : kvs.length = ys.length := Paired.length rel
  refine call_len_dictH hd dd (by rw [← hl]; rw [sizeLine_eq] at z; omega) ?_
  rw [← hl]
  exact ⟨.int ((kvs.length : Nat) : Int), H, I.tok _, ⟨_, rfl⟩, q⟩
theorem call_lenD : CallR X (.builtin "len") (fun xs H Q => (∃ a kvs, xs = [.ref a] ∧ Rd H a (.dK kvs) ∧ Q (.int kvs.length) H) ∨ ∃ a kvs, xs = [.ref a] ∧ Rd H a (.dT kvs) ∧ Q (.int kvs.length) H) :=
  call_lenK.or call_lenT
theorem opN_lenD {K : PySem.W.Frag} (hm : m1.look = true) : OpN K (fun xs H Q => (∃ a kvs, xs = [.ref a] ∧ Rd H a (.dK kvs) ∧ Q (.int kvs.length) H) ∨ ∃ a kvs, xs = [.ref a] ∧ Rd H a (.dT kvs) ∧ Q (.int kvs.length) H) [m1] m gLenD := by
  intro B F H vs ds fp R Q w hv hf hg k
  unfold gLenD at hg
  split at hg
  · obtain ⟨v, rfl, h⟩ := hv.one
    obtain ⟨_, a, kvs, rfl, hr, hk, it⟩ := h.dK hm w
    have hlen := congrArg List.length hk
    rw [List.length_map, List.length_map] at hlen
    exact .inl ⟨a, kvs, rfl, hr, by rw [hlen]; exact k.int w hg⟩
  · obtain ⟨v, rfl, h⟩ := hv.one
    obtain ⟨_, a, kvs, rfl, hr, hk, it⟩ := h.dT hm w
    have hlen := congrArg List.length hk
    rw [List.length_map, List.length_map] at hlen
    exact .inr ⟨a, kvs, rfl, hr, by rw [hlen]; exact k.int w hg⟩
  · exact hg.elim
theorem de_lenT (hz : X.mg "len" = none) (ha : DE X B e m1 f) (hm : m1.look = true := by rfl) (hg : Gl X "len" := by rfl) (he : starEach [e] X.env = (false, eval e X.env) :: starEach [] X.env := by rfl) (hpl : (backTo pos (starEach [] X.env)).any (·.1) = false := by rfl) :
    DE X B (.Call (.Name "len" p) [e] [] pos) m (fArgs gLenD (fCons f fNil)) := de_B call_lenD (opN_lenD hm) hg hz PySem.boot_len (da_cons ha da_nil he) (by decide) (by decide) he hpl
end
theorem gLenD_dK {ds : List (Key × D)} {R : D → Prop} : gLenD [.dK ds] R = R (.int ds.length) := rfl
theorem gLenD_dT {ds : List (List Key × D)} {R : D → Prop} : gLenD [.dT ds] R = R (.int ds.length) := rfl
end GK

namespace GK
open PySem PySem.Spec PyProof.Rows L2
/-! ### tables by any key -/
section
variable {α β : Type} [DecidableEq α]
def gA (l : List (α × β)) (k : α) : Option β := (l.find? fun e => decide (e.1 = k)).map (·.2)
def iA (l : List (α × β)) (k : α) (v : β) : List (α × β) :=
  if (l.any fun e => decide (e.1 = k)) = true then l.map (fun e => if e.1 = k then (e.1, v) else e) else l ++ [(k, v)]
theorem gA_nil {k : α} : gA ([] : List (α × β)) k = none := rfl
theorem gA_cons {e : α × β} {l : List (α × β)} {k : α} : gA (e :: l) k = if e.1 = k then some e.2 else gA l k := by
  unfold gA
  rw [List.find?_cons]
  by_cases h : e.1 = k <;> simp [h]
theorem gA_mem {l : List (α × β)} {k : α} {v : β} (h : gA l k = some v) : (k, v) ∈ l := by
  induction l with
  | nil => cases h
  | cons e l ih =>
    rw [gA_cons] at h
    split at h
    · rename_i q
      cases h
      rw [← q]; exact List.mem_cons_self
    · exact List.mem_cons_of_mem _ (ih h)
theorem gA_none {l : List (α × β)} {k : α} : gA l k = none ↔ k ∉ l.map (·.1) := by
  induction l with
  | nil => simp [gA_nil]
  | cons e l ih =>
    rw [gA_cons, List.map_cons, List.mem_cons]
    by_cases h : e.1 = k
    · rw [if_pos h]; simp [h]
    · rw [if_neg h, ih]
      exact ⟨fun q z => z.elim (fun z => h z.symm) q, fun q z => q (.inr z)⟩
theorem gA_of_mem {l : List (α × β)} {k : α} {v : β} (nd : (l.map (·.1)).Nodup) (h : (k, v) ∈ l) : gA l k = some v := by
  induction l with
  | nil => cases h
  | cons e l ih =>
    rw [gA_cons]
    rw [List.map_cons, List.nodup_cons] at nd
    rcases List.mem_cons.mp h with rfl | h
    · rw [if_pos rfl]
    · have q : ¬ e.1 = k := fun z => nd.1 (by rw [z]; exact List.mem_map.mpr ⟨(k, v), h, rfl⟩)
      rw [if_neg q, ih nd.2 h]
theorem any_keyA {l : List (α × β)} {k : α} : (l.any fun e => decide (e.1 = k)) = true ↔ k ∈ l.map (·.1) := by
  rw [List.any_eq_true, List.mem_map]
  constructor
  · rintro ⟨e, h1, h2⟩; exact ⟨e, h1, of_decide_eq_true h2⟩
  · rintro ⟨e, h1, h2⟩; exact ⟨e, h1, decide_eq_true h2⟩
theorem iA_new {l : List (α × β)} {k : α} {v : β} (h : k ∉ l.map (·.1)) : iA l k v = l ++ [(k, v)] := by
  unfold iA; rw [if_neg (fun z => h (any_keyA.mp z))]
theorem iA_keys_old {l : List (α × β)} {k : α} {v : β} (h : k ∈ l.map (·.1)) : (iA l k v).map (·.1) = l.map (·.1) := by
  unfold iA
  rw [if_pos (any_keyA.mpr h), List.map_map]
  refine List.map_congr_left fun e _ => ?_
  show (if e.1 = k then (e.1, v) else e).1 = e.1
  split <;> rfl
theorem iA_keys {l : List (α × β)} {k : α} {v : β} : ∀ x, x ∈ (iA l k v).map (·.1) ↔ x ∈ l.map (·.1) ∨ x = k := by
  intro x
  by_cases h : k ∈ l.map (·.1)
  · rw [iA_keys_old h]
    exact ⟨.inl, fun z => z.elim id fun z => z ▸ h⟩
  · rw [iA_new h, List.map_append, List.mem_append, List.map_cons, List.map_nil, List.mem_singleton]
theorem iA_nodup {l : List (α × β)} {k : α} {v : β} (nd : (l.map (·.1)).Nodup) : ((iA l k v).map (·.1)).Nodup := by
  by_cases h : k ∈ l.map (·.1)
  · rw [iA_keys_old h]; exact nd
  · rw [iA_new h, List.map_append]
    exact List.nodup_append.mpr ⟨nd, by simp, fun a ha b hb e => by
      rw [List.map_cons, List.map_nil, List.mem_singleton] at hb
      have hb : b = k := hb
      subst e
      subst hb
      exact h ha⟩
theorem gA_iA {l : List (α × β)} {k x : α} {v : β} : gA (iA l k v) x = if x = k then some v else gA l x := by
  by_cases h : k ∈ l.map (·.1)
  · unfold iA
    rw [if_pos (any_keyA.mpr h)]
    induction l with
    | nil => cases h
    | cons e l ih =>
      rw [List.map_cons, gA_cons, gA_cons]
      by_cases q : e.1 = k
      · rw [if_pos q]
        by_cases hx : x = k
        · rw [if_pos hx, if_pos (by rw [q, hx])]
        · rw [if_neg hx, if_neg (fun z => hx (z.symm.trans q)), if_neg (fun z => hx (z.symm.trans q))]
          by_cases h2 : k ∈ l.map (·.1)
          · have := ih h2
            rw [if_neg hx] at this; exact this
          · have e1 : l.map (fun e => if e.1 = k then (e.1, v) else e) = l := by
              rw [List.map_congr_left (g := id) fun e he => ?_, List.map_id]
              exact if_neg (fun z : e.1 = k => h2 (by rw [← z]; exact List.mem_map.mpr ⟨e, he, rfl⟩))
            rw [e1]
      · rw [if_neg q]
        have h2 : k ∈ l.map (·.1) := by
          rw [List.map_cons] at h
          exact (List.mem_cons.mp h).elim (fun z => absurd z.symm q) id
        rw [ih h2]
        by_cases hx : x = k
        · rw [if_pos hx, if_neg (fun z => q (z.trans hx)), if_pos hx]
        · rw [if_neg hx, if_neg hx]
  · rw [iA_new h]
    have key : ∀ l : List (α × β), k ∉ l.map (·.1) → gA (l ++ [(k, v)]) x = if x = k then some v else gA l x := fun l => by
      induction l with
      | nil =>
        intro _
        rw [List.nil_append, gA_cons, gA_nil]
        by_cases hx : x = k
        · rw [if_pos hx, if_pos hx.symm]
        · rw [if_neg hx, if_neg fun z => hx z.symm]
      | cons e l ih =>
        intro hk
        rw [List.map_cons] at hk
        rw [List.cons_append, gA_cons, gA_cons, ih fun z => hk (List.mem_cons_of_mem _ z)]
        by_cases q : e.1 = x
        · have hx : ¬ x = k := fun z => hk (by rw [← z, ← q]; exact List.mem_cons_self)
          rw [if_pos q, if_neg hx, if_pos q]
        · rw [if_neg q, if_neg q]
    exact key l h
theorem iA_len {l : List (α × β)} {k : α} {v : β} : (iA l k v).length ≤ l.length + 1 := by
  unfold iA
  split
  · rw [List.length_map]; omega
  · rw [List.length_append, List.length_singleton]; omega
end
/-! ### as data -/
section
variable {α β κ : Type} [DecidableEq α] [DecidableEq κ] {q : α → κ} {f : β → D} {l : List (α × β)} {k : α} {v : β}
def kvA (q : α → κ) (f : β → D) (e : α × β) : κ × D := (q e.1, f e.2)
theorem putD_A (hq : ∀ a b, q a = q b → a = b) : putD (l.map (kvA q f)) (q k) (f v) = (iA l k v).map (kvA q f) := by
  unfold putD iA
  have e1 : ((l.map (kvA q f)).any fun e => decide (e.1 = q k)) = l.any fun e => decide (e.1 = k) := by
    rw [List.any_map]
    congr 1
    funext e
    show decide (q e.1 = q k) = decide (e.1 = k)
    by_cases h : e.1 = k
    · rw [decide_eq_true h, decide_eq_true (congrArg q h)]
    · rw [decide_eq_false h, decide_eq_false (fun z => h (hq _ _ z))]
  rw [e1]
  by_cases c : (l.any fun e => decide (e.1 = k)) = true
  · rw [if_pos c, if_pos c, List.map_map, List.map_map]
    refine List.map_congr_left fun e _ => ?_
    show (if q e.1 = q k then (q e.1, f v) else kvA q f e) = kvA q f (if e.1 = k then (e.1, v) else e)
    by_cases h : e.1 = k
    · rw [if_pos (congrArg q h), if_pos h]; rfl
    · rw [if_neg (fun z => h (hq _ _ z)), if_neg h]
  · rw [if_neg c, if_neg c, List.map_append]; rfl
theorem getD_A (hq : ∀ a b, q a = q b → a = b) : getD' (l.map (kvA q f)) (q k) = (gA l k).map f := by
  unfold getD'
  induction l with
  | nil => rfl
  | cons e l ih =>
    rw [List.map_cons, List.find?_cons, gA_cons]
    by_cases h : e.1 = k
    · rw [if_pos h]
      have : decide ((kvA q f e).1 = q k) = true := decide_eq_true (congrArg q h)
      rw [this]; rfl
    · rw [if_neg h]
      have : decide ((kvA q f e).1 = q k) = false := decide_eq_false (fun z => h (hq _ _ z))
      rw [this]
      exact ih
end
def qS (s : Str) : Key := .inr s
def qP (p : Str × Str) : List Key := [.inr p.1, .inr p.2]
theorem qS_inj : ∀ a b, qS a = qS b → a = b := fun _ _ h => Sum.inr.inj h
theorem qP_inj : ∀ a b, qP a = qP b → a = b := fun a b h => by
  unfold qP at h
  injection h with h1 h2
  injection h2 with h2
  exact Prod.ext (Sum.inr.inj h1) (Sum.inr.inj h2)
/-- a table by texts; a table by pairs of texts -/
def sT {β : Type} (f : β → D) (l : List (Str × β)) : D := .dK (l.map (kvA qS f))
def pT {β : Type} (f : β → D) (l : List ((Str × Str) × β)) : D := .dT (l.map (kvA qP f))
def prS (p : Str × Str) : D := .tup [.str p.1, .str p.2]
section
variable {β : Type} {f : β → D} {l : List (Str × β)} {k : Str} {v : β} {m : List ((Str × Str) × β)} {p : Str × Str}
theorem look_sT : lookD (sT f l) (.str k) = some ((gA l k).map f) := by
  show some (getD' (l.map (kvA qS f)) (qS k)) = _
  rw [getD_A qS_inj]
theorem look_pT : lookD (pT f m) (prS p) = some ((gA m p).map f) := by
  show some (getD' (m.map (kvA qP f)) (qP p)) = _
  rw [getD_A qP_inj]
theorem sget_go {R : D → Prop} (h : gA l k = some v) (q : R (f v)) : gDGet (sT f l) (.str k) R := ⟨f v, by rw [look_sT, h]; rfl, q⟩
theorem sin_go {b : Bool} {R : D → Prop} (q : R (.bl (b ^^ (gA l k).isSome))) : gDIn b (.str k) (sT f l) R := ⟨(gA l k).map f, look_sT, by rw [Option.isSome_map]; exact q⟩
theorem pget_go {R : D → Prop} (h : gA m p = some v) (q : R (f v)) : gDGet (pT f m) (prS p) R := ⟨f v, by rw [look_pT, h]; rfl, q⟩
theorem pin_go {b : Bool} {R : D → Prop} (q : R (.bl (b ^^ (gA m p).isSome))) : gDIn b (prS p) (pT f m) R := ⟨(gA m p).map f, look_pT, by rw [Option.isSome_map]; exact q⟩
theorem keys_sT : keysD (sT f l) = some ((l.map (·.1)).map .str) := by
  show some ((l.map (kvA qS f)).map fun e => keyD e.1) = _
  rw [List.map_map, List.map_map]; rfl
theorem keys_pT : keysD (pT f m) = some ((m.map (·.1)).map prS) := by
  show some ((m.map (kvA qP f)).map fun e => D.tup (e.1.map keyD)) = _
  rw [List.map_map, List.map_map]; rfl
theorem sput_go {ρ : Env} {i : Nat} {N : Env → Prop} (e : slot ρ i = some (1, sT f l)) (hl : l.length < sizeLine) (q : N (ρ.set i (some (1, sT f (iA l k v))))) :
    ownDK ρ i 0 fun ds => ds.length < sizeLine ∧ N (ρ.set i (some (1, .dK (putD ds (Sum.inr k : Key) (f v))))) := by
  unfold ownDK
  rw [e]
  refine ⟨rfl, by rw [List.length_map]; exact hl, ?_⟩
  have := putD_A (q := qS) (f := f) (l := l) (k := k) (v := v) qS_inj
  unfold qS at this
  unfold qS
  rw [this]; exact q
theorem pput_go {ρ : Env} {i : Nat} {N : Env → Prop} (e : slot ρ i = some (1, pT f m)) (hl : m.length < sizeLine) (q : N (ρ.set i (some (1, pT f (iA m p v))))) :
    ownDT ρ i 0 fun ds => ds.length < sizeLine ∧ N (ρ.set i (some (1, .dT (putD ds [(Sum.inr p.1 : Key), .inr p.2] (f v))))) := by
  unfold ownDT
  rw [e]
  refine ⟨rfl, by rw [List.length_map]; exact hl, ?_⟩
  have := putD_A (q := qP) (f := f) (l := m) (k := p) (v := v) qP_inj
  unfold qP at this
  unfold qP
  rw [this]; exact q
theorem own_sT {ρ : Env} {i n : Nat} {q : List (Key × D) → Prop} (e : slot ρ i = some (n + 1, sT f l)) (h : q (l.map (kvA qS f))) : ownDK ρ i n q := by
  unfold ownDK
  rw [e]
  exact ⟨rfl, h⟩
theorem own_pT {ρ : Env} {i n : Nat} {q : List (List Key × D) → Prop} (e : slot ρ i = some (n + 1, pT f m)) (h : q (m.map (kvA qP f))) : ownDT ρ i n q := by
  unfold ownDT
  rw [e]
  exact ⟨rfl, h⟩
theorem put_sT : putD (l.map (kvA qS f)) (Sum.inr k : Key) (f v) = (iA l k v).map (kvA qS f) := putD_A (q := qS) qS_inj
theorem put_pT {x y : Str} : putD (m.map (kvA qP f)) [(Sum.inr x : Key), .inr y] (f v) = (iA m (x, y) v).map (kvA qP f) := putD_A (q := qP) (k := (x, y)) qP_inj
end
/-! ### texts -/
def strOk (s : Str) : Bool := s.cps.all (· < 0x110000)
def abc : Str := "abcdefghijklmnopqrstuvwxyz"
theorem abc_len : abc.cps.toList.length = 26 := by decide +kernel
theorem abc_ok : abc.cps.toList.all (fun c => decide (c < 0x110000)) = true := by decide +kernel
theorem abc_sz : abc.length ≤ sizeLine := by decide +kernel
theorem strOk_one {c : Nat} (h : c < 0x110000) : strOk ⟨#[c]⟩ = true := by
  unfold strOk
  simp [h]
theorem strOk_iff {z : Str} : strOk z = true ↔ ∀ c ∈ z.cps.toList, c < 0x110000 := by
  unfold strOk
  rw [Array.all_eq_true']
  constructor
  · intro h c hc
    simpa using h c (by simpa using hc)
  · intro h c hc
    simpa using h c (by simpa using hc)
theorem len_cps (z : Str) : z.length = z.cps.toList.length := by
  unfold Str.length
  simp
theorem atI_nat {α : Type} {xs : List α} {i : Int} (h0 : 0 ≤ i) (h1 : i < xs.length) : ∃ c, atI xs i = some c ∧ c ∈ xs := by
  have hn : i.toNat < xs.length := by omega
  refine ⟨xs[i.toNat], ?_, List.getElem_mem _⟩
  unfold atI ixN
  rw [if_pos h0, if_pos h1]
  show xs[i.toNat]? = _
  exact List.getElem?_eq_getElem hn
theorem letter_go {i : Int} {R : D → Prop} (h0 : 0 ≤ i) (h1 : i < 26) (h : ∀ z : Str, strOk z = true → z.length = 1 → R (.str z)) : gIxS (.str abc) (.int i) R := by
  obtain ⟨c, e, hc⟩ := atI_nat (xs := abc.cps.toList) h0 (by rw [abc_len]; exact h1)
  refine ⟨abc_sz, c, e, h _ (strOk_one ?_) rfl⟩
  exact of_decide_eq_true (List.all_eq_true.mp abc_ok c hc)
theorem sign_go {z : Str} {i : Int} {R : D → Prop} (hz : z.length ≤ 8) (h0 : 0 ≤ i) (h1 : i < z.length) (h : ∀ y : Str, R (.str y)) : gIxS (.str z) (.int i) R := by
  obtain ⟨c, e, hc⟩ := atI_nat (xs := z.cps.toList) h0 (by rw [← len_cps]; exact h1)
  exact ⟨by rw [szL]; omega, c, e, h _⟩
theorem strOk_rep {z : Str} {n : Int} (h : strOk z = true) : strOk (repS z n) = true := by
  rw [strOk_iff] at h ⊢
  intro c hc
  unfold repS at hc
  have hc : c ∈ (List.replicate n.toNat z.cps.toList).flatten := by simpa using hc
  obtain ⟨l, hl, hcl⟩ := List.mem_flatten.mp hc
  rw [(List.mem_replicate.mp hl).2] at hcl
  exact h c hcl
theorem strOk_cut {z : Str} {lo hi : Option Int} (h : strOk z = true) : strOk (cutS z lo hi) = true := by
  rw [strOk_iff] at h ⊢
  intro c hc
  unfold cutS at hc
  have hc : c ∈ (z.cps.toList.drop (HT.sIx z.length 0 lo)).take (HT.sIx z.length z.length hi - HT.sIx z.length 0 lo) := by simpa using hc
  exact h c (List.mem_of_mem_drop (List.mem_of_mem_take hc))
theorem strOk_cat {a b : Str} (h1 : strOk a = true) (h2 : strOk b = true) : strOk (a ++ b) = true := by
  rw [strOk_iff] at h1 h2 ⊢
  intro c hc
  have hc : c ∈ (a.cps ++ b.cps).toList := hc
  rw [Array.toList_append] at hc
  exact (List.mem_append.mp hc).elim (h1 c) (h2 c)
theorem len_cat (a b : Str) : (a ++ b).length = a.length + b.length := by
  show (a.cps ++ b.cps).size = a.cps.size + b.cps.size
  rw [Array.size_append]
theorem cut_len (z : Str) (lo hi : Option Int) : (cutS z lo hi).length = min (HT.sIx z.length z.length hi - HT.sIx z.length 0 lo) (z.length - HT.sIx z.length 0 lo) := by
  rw [len_cps]
  unfold cutS
  simp [List.length_take, List.length_drop]
  rfl
theorem cut_to {z : Str} {a : Int} (h0 : 0 ≤ a) (h1 : a ≤ z.length) : (cutS z none (some a)).length = a.toNat := by
  rw [cut_len]
  have e : a = ((a.toNat : Nat) : Int) := by omega
  rw [e, HT.sIx_nat, HT.sIx_none]
  omega
theorem cut_from {z : Str} {a : Int} (h0 : 0 ≤ a) (h1 : a ≤ z.length) : (cutS z (some a) none).length = z.length - a.toNat := by
  rw [cut_len]
  have e : a = ((a.toNat : Nat) : Int) := by omega
  rw [e, HT.sIx_nat, HT.sIx_none]
  omega
/-- a word with one sign put anew -/
theorem anew {w z : Str} {a : Int} {n : Nat} (hw : strOk w = true) (hz : strOk z = true) (hn : w.length = n) (h1 : z.length = 1) (h0 : 0 ≤ a) (ha : a < n) : strOk (cutS w none (some a) ++ z ++ cutS w (some (a + 1)) none) = true ∧ (cutS w none (some a) ++ z ++ cutS w (some (a + 1)) none).length = n := by
  refine ⟨strOk_cat (strOk_cat (strOk_cut hw) hz) (strOk_cut hw), ?_⟩
  rw [len_cat, len_cat, cut_to h0 (by omega), h1, cut_from (by omega) (by omega), hn]
  omega
theorem all_str (l : List Str) : (l.map D.str).all flD = true := by
  rw [List.all_eq_true]
  intro d hd
  obtain ⟨s, _, rfl⟩ := List.mem_map.mp hd
  rfl
theorem gSlS_str {z : Str} {lo hi : Option Int} {R : D → Prop} : gSlS (.str z) lo hi R = (z.length ≤ sizeLine ∧ R (.str (cutS z lo hi))) := rfl
theorem gCatS_str {a b : Str} {R : D → Prop} : gCatS (.str a) (.str b) R = (a.length + b.length ≤ sizeLine ∧ R (.str (a ++ b))) := rfl
theorem gRepS_str {a : Str} {n : Int} {R : D → Prop} : gRepS (.str a) (.int n) R = (-(2 ^ 63) ≤ n ∧ n < 2 ^ 63 ∧ n.toNat * a.length ≤ sizeLine ∧ R (.str (repS a n))) := rfl
theorem gFind_str {a b : Str} {R : D → Prop} : gFind (.str a) [.str b] R = R (.int (Txt.find a b)) := rfl
theorem pick_ix {j : Int} {n : Nat} (h0 : 0 ≤ j) (h1 : j < n) : ixN n j = some j.toNat := by
  unfold ixN
  rw [if_pos h0, if_pos h1]

def leS (a b : Str) : Bool := leD (.str a) (.str b)
theorem leD_total : PySem.W.TotalLe leD := PySem.W.sortLe_total _ false _
theorem leS_total : PySem.W.TotalLe leS := ⟨fun a b c => leD_total.trans (.str a) (.str b) (.str c), fun a b => leD_total.total (.str a) (.str b)⟩
theorem sort_strs {ws : List Str} (h : ∀ w ∈ ws, strOk w = true) : sortOk (ws.map .str) := by
  refine ⟨fun d hd => ?_, fun d hd d' hd' => ?_, ?_⟩
  · obtain ⟨w, hw, rfl⟩ := List.mem_map.mp hd
    exact h w hw
  · rw [List.map_map] at hd hd'
    obtain ⟨w, hw, rfl⟩ := List.mem_map.mp hd
    obtain ⟨w', hw', rfl⟩ := List.mem_map.mp hd'
    rfl
  · refine .inr fun d hd => ?_
    rw [List.map_map] at hd
    obtain ⟨w, hw, rfl⟩ := List.mem_map.mp hd
    exact ⟨fun z => (by cases z), fun xs z => (by cases z)⟩
theorem map_sort_strs (ws : List Str) : (ws.map .str).mergeSort leD = (ws.mergeSort leS).map .str :=
  (List.map_mergeSort (r := leS) (s := leD) (f := .str) (l := ws) fun _ _ _ _ => rfl).symm
theorem sort_twice (ws : List Str) : (ws.mergeSort leS).mergeSort leS = ws.mergeSort leS :=
  List.mergeSort_of_pairwise (List.pairwise_mergeSort leS_total.trans (fun a b => by
    rcases leS_total.total a b with h | h <;> simp [h]) ws)
end GK

namespace GK
open PySem PySem.Spec PyProof.Rows L2
/-! ### sorted(d) of fewer than 64 texts -/
theorem leS_iff {a b : Str} : leS a b = true ↔ a.cps.toList ≤ b.cps.toList := by
  show (!PySem.W.dataLt (.str b) (.str a)) = true ↔ _
  rw [PySem.W.dataLt_str]
  rw [PySem.W.not_lt_str, decide_eq_true_eq]
theorem leS_anti {a b : Str} (h1 : leS a b = true) (h2 : leS b a = true) : a = b := by
  have := List.le_antisymm (leS_iff.mp h1) (leS_iff.mp h2)
  cases a; cases b
  rename_i x y
  exact congrArg Str.mk (Array.ext' this)
theorem leS_lt {a b : Str} : (!ltCps b.cps.toList a.cps.toList) = leS a b := by
  rw [ltCps_eq]
  show _ = (!PySem.W.dataLt (.str b) (.str a))
  rw [PySem.W.dataLt_str]
theorem rising_pw : ∀ {r : List Str} {p : Str}, risingS p r = true → (p :: r).Pairwise fun a b => leS a b = true
  | [], p, _ => by simp
  | x :: r, p, h => by
    have h : (!ltCps x.cps.toList p.cps.toList && risingS x r) = true := h
    rw [Bool.and_eq_true, leS_lt] at h
    have ih := rising_pw h.2
    refine List.pairwise_cons.mpr ⟨fun y hy => ?_, ih⟩
    rcases List.mem_cons.mp hy with e | hy
    · rw [e]; exact h.1
    · exact leS_total.trans _ _ _ h.1 ((List.pairwise_cons.mp ih).1 y hy)
theorem sortedS_eq {ys ks : List Str} (p : ys.Perm ks) (h : sortedS ys = true) : ys = ks.mergeSort leS := by
  refine List.Perm.eq_of_pairwise (le := fun a b => leS a b = true) (fun a b _ _ h1 h2 => leS_anti h1 h2) ?_ (List.pairwise_mergeSort leS_total.trans (fun a b => by
    rcases leS_total.total a b with h | h <;> simp [h]) ks) (p.trans (List.mergeSort_perm _ _).symm)
  cases ys with
  | nil => exact .nil
  | cons x r => exact rising_pw h
def gSortK : List D → (D → Prop) → Prop
  | [.dK es], R => ∃ ks : List Str, es.map (·.1) = ks.map Sum.inr ∧ ks.length < 64 ∧ R (.lst ((ks.mergeSort leS).map .str))
  | _, _ => False
theorem rl_strs {K : PySem.W.Frag} {F : Hp} : ∀ ys : List Str, RL K F (ys.map V.str) (ys.map D.str)
  | [] => .nil
  | y :: ys => .cons (.str y) (rl_strs ys)
theorem opN_sortK {K : PySem.W.Frag} {m1 : Mode} (h1 : m1.look = true) : OpN K (fun xs H Q => ∃ (a : Addr) (kvs : List (Key × V)) (ks : List Str), xs = [.ref a] ∧ Rd H a (.dK kvs) ∧ kvs.map (·.1) = ks.map Sum.inr ∧ ks.length < 64 ∧
    ∀ ys p, ys.Perm ks → sortedS ys = true → H p = none → Q (.ref p) (upd H p (.lst (ys.map V.str)))) [m1] (.own 1) gSortK := by
  intro B F H vs ds fp R Q w hv hf hg k
  unfold gSortK at hg
  split at hg
  · obtain ⟨ks, ek, hl, hR⟩ := hg
    obtain ⟨v, rfl, h⟩ := hv.one
    obtain ⟨_, a, kvs, rfl, hr, hk, it⟩ := h.dK h1 w
    refine ⟨a, kvs, ks, rfl, hr, hk.trans ek, hl, fun ys p hp hs hz => ?_⟩
    rw [sortedS_eq hp hs]
    exact k.newLst0 w (rl_strs _) hR hz
  · exact hg.elim
section
variable {X : Cx} {e : Expr} {p pos : Pos} {m m1 : Mode} {f : FE}
theorem de_sortedK (hc : X.calm = true) (hz : X.mg "sorted" = none) (ha : DE X B e m1 f) (hm : m1.look = true := by rfl) (hg : Gl X "sorted" := by rfl) (he : starEach [e] X.env = (false, eval e X.env) :: starEach [] X.env := by rfl) (hpl : (backTo pos (starEach [] X.env)).any (·.1) = false := by rfl) :
    DE X B (.Call (.Name "sorted" p) [e] [] pos) (.own 1) (fArgs gSortK (fCons f fNil)) := de_B (call_sortedD hc) (opN_sortK hm) hg hz (by decide +kernel) (da_cons ha da_nil he) (by decide) (by decide) he hpl
end
theorem gSortK_sT {β : Type} {f : β → D} {l : List (Str × β)} {R : D → Prop} (h : l.length < 64) (q : R (.lst (((l.map (·.1)).mergeSort leS).map .str))) : gSortK [sT f l] R :=
  ⟨l.map (·.1), by rw [List.map_map, List.map_map]; rfl, by rw [List.length_map]; exact h, q⟩
end GK

namespace GK
open PySem PySem.Spec PyProof.Rows L2
/-! ### isinstance of a dict by tuples, locked or not -/
theorem call_isiDT {X : Cx} : CallR X (.builtin "isinstance") (fun xs H Q => ∃ (a : Addr) (kvs : List (List Key × V)) (c : V) (u : Value) (b : Bool), xs = [.ref a, c] ∧ Rd H a (.dT kvs) ∧ ClsV c u ∧ PySem.W.kitOne X.K (.type "dict") u = some b ∧ Q (.bl b) H) := by
  intro pins s σ H xs us Q I r h
  obtain ⟨a, kvs, c, u, b, rfl, hr, k, e, q⟩ := h
  obtain ⟨u1, u2, rfl, r1, r2⟩ := vals2 r
  have e2 := k.eq r2
  subst e2
  cases (show u1 = Value.ref a from r1)
  obtain ⟨z, hd, ys, rel, o, es, ep, h1, h2, _⟩ := dt_rd I.hok hr
  exact PySem.W.kia_one PySem.W.kitx_dict I.kIn ⟨o, h1, h2.1⟩ e (fun z => nomatch z) fun tk => ⟨.bl b, H, I.tok tk, rfl, q⟩
def gIsiD (K : PySem.W.Frag) : List D → (D → Prop) → Prop
  | [.dT _, .raw c], R => ∃ u b, clV c = some u ∧ PySem.W.kitOne K (.type "dict") u = some b ∧ R (.bl b)
  | ds, R => gIsi K ds R
theorem opN_isiD {K : PySem.W.Frag} {m m1 m2 : Mode} (hm : m1.look = true) : OpN K (fun xs H Q => rIsi K xs H Q ∨ ∃ (a : Addr) (kvs : List (List Key × V)) (c : V) (u : Value) (b : Bool), xs = [.ref a, c] ∧ Rd H a (.dT kvs) ∧ ClsV c u ∧ PySem.W.kitOne K (.type "dict") u = some b ∧ Q (.bl b) H) [m1, m2] m (gIsiD K) := by
  intro B F H vs ds fp R Q w hv hf hg k
  unfold gIsiD at hg
  split at hg
  · obtain ⟨u, b, e2, e3, hR⟩ := hg
    obtain ⟨v, v', f, f', rfl, h, h', _⟩ := hv.two
    have := raw_v h'
    subst this
    obtain ⟨_, a, kvs, rfl, hr, hk, it⟩ := h.dT hm w
    exact .inr ⟨a, kvs, _, u, b, rfl, hr, clV_ok e2, e3, k.bl w hR⟩
  · exact .inl (opN_isi hm B F H vs _ fp R Q w hv hf hg k)
theorem de_isiD {X : Cx} {e e2 : Expr} {p pos : Pos} {m m1 m2 : Mode} {f f' : FE} (K : PySem.W.Frag) (hK : X.K = K) (hz : X.mg "isinstance" = none) (ha : DE X B e m1 f) (hb : DE X B e2 m2 f') (hm : m1.look = true := by rfl) (hg : Gl X "isinstance" := by rfl) (he : starEach [e, e2] X.env = (false, eval e X.env) :: starEach [e2] X.env := by rfl) (he2 : starEach [e2] X.env = (false, eval e2 X.env) :: starEach [] X.env := by rfl) (hpl : (backTo pos (starEach [e2] X.env)).any (·.1) = false := by rfl) :
    DE X B (.Call (.Name "isinstance" p) [e, e2] [] pos) m (fArgs (gIsiD K) (fCons f (fCons f' fNil))) := by
  subst hK
  exact de_B (call_isi.or call_isiDT) (opN_isiD hm) hg hz (by decide +kernel) (da_cons ha (da_cons hb da_nil he2) he) (by decide) (by decide) he hpl
theorem isiD_dT {K : PySem.W.Frag} {es : List (List Key × D)} {n : String} {b : Bool} {R : D → Prop} (hk : kitB "dict" n = some b) (h : R (.bl b)) : gIsiD K [.dT es, .raw (.ty n)] R := ⟨_, b, rfl, kit_ty hk, h⟩
end GK

namespace GK
open PySem PySem.Spec PyProof.Rows L2
section
variable {X : Cx} {pin n i j : Nat} {pos p1 p2 p apos cpos : Pos} {x y : Str} {mr m : Mode} {e : Expr} {f : FE}
/-- an atom may count as owned -/
theorem de_atm (n : Nat) (h : DE X B e (.own 0) f) : DE X B e (.own n) (fun ρ R => f ρ fun d => atomD d = true ∧ R d) := PE.imp h fun σ H Q ⟨F, ρ, fp, R, S, hf, k⟩ => ⟨F, ρ, fp, _, S, hf, fun F' H' v d f' s hv ho hn ⟨ha, hR⟩ => by
  obtain ⟨⟨G, r⟩, e0⟩ := hv.atomR ha
  subst e0
  exact k F' H' v d [] s (Val.atom ha fun F => by cases d <;> first | (cases ha; done) | (cases r; constructor)) (fun a h => (by cases h)) List.nodup_nil hR⟩
/-- t[k] of an owned tuple -/
theorem dm_atC {f : FM} (n : Nat) {k : Int} {jj : Nat} (ha : DM X B e pin (.own (n + 1)) f) : DM X B (.Subscript e (.Constant (.int k) jj p1) pos) pin (.own n) (fun ρ R => f ρ fun d ρ' => gIxT d (.int k) fun c => R c ρ') :=
  PE.imp (pe_ix ix_seq ha pe_int fun _ _ => rfl) fun σ H Q ⟨Pn, Z0, F0, F, ρ, fp, R, hpl, S, hf, kk⟩ => by
    refine ⟨Pn, Z0, F0, F, ρ, fp, _, hpl, S, hf, fun F' H' ρ' fp' v d f' S' hv ap hR => ?_⟩
    cases d <;> try exact (show False from hR).elim
    obtain ⟨c, hc, hR⟩ := hR
    obtain ⟨a, vs, rfl, ha, ol⟩ := (show Own X.K F' H' (n + 1) v (.tup _) f' from hv)
    obtain ⟨j, e1, e2⟩ := atI_same ol.len hc
    obtain ⟨w, g, q1, q2, q3, q4⟩ := ol.pick ap.2 e1
    refine .inr (.inl ⟨a, vs, k, w, rfl, rfl, tup_sub S'.wf ha, e2 w q1, ?_⟩)
    exact kk F' H' ρ' fp' w c g S' q2 ⟨fun b hb => ap.1 b (q4 b hb), q3⟩ hR
/-- ("text", x), x taken -/
theorem dm_tupCT (i n : Nat) {s : Str} {k jj : Nat} (hN : NameOk X i x := by exact ⟨rfl, by first | exact Or.inl rfl | exact Or.inr (Or.inl rfl) | exact Or.inr (Or.inr rfl), by decide, by decide⟩)
    (hs : starEach [.Constant (.str s) jj p2, .Name x p1] X.env = (false, eval (.Constant (.str s) jj p2) X.env) :: starEach [.Name x p1] X.env := by rfl) (hs2 : starEach [.Name x p1] X.env = (false, eval (.Name x p1) X.env) :: starEach [] X.env := by rfl) :
    DM X B (.Tuple [.Constant (.str s) jj p2, .Name x p1] k pos) pin (.own (n + 1)) (fun ρ R => mTake i n ρ fun d ρ1 => R (.tup [.str s, d]) ρ1) :=
  PE.imp (pe_tup (pa_cons pe_str (pa_cons (pe_var hN.1 hN.2 hN.3 hN.4) pa_nil hs2) hs)) fun σ H Q ⟨Pn, Z0, F0, F, ρ, fp, R, hpl, S, hf, k⟩ => by
    obtain ⟨d, q, hR⟩ := mTake_inv (show mTake i n ρ _ from hf)
    obtain ⟨v, f, fp1, e1, o1, S1, ap1, sub1⟩ := S.take q
    refine ⟨v, e1, by show 2 ≤ sizeLine; decide, fun p hp => ?_⟩
    have st := Step.laidF (A := []) S1.wf hp (o := .tup [.str s, v]) rfl
    have S3 := S1.step st fun a h => (by cases h)
    have np : ∀ a ∈ f, a ≠ p := fun a ha z => by
      obtain ⟨ob, eo, _⟩ := o1.there a ha
      rw [z, hp] at eo; cases eo
    have on : Own X.K (upd F p (.tup [.str s, v])) (upd H p (.tup [.str s, v])) n (.str s) (.str s) [] := by cases n <;> exact ⟨.str s, rfl⟩
    refine k _ _ _ fp1 (.ref p) (.tup [.str s, d]) f S3 ⟨p, [.str s, v], rfl, upd_same, [], f, rfl, on, f, [], (List.append_nil f).symm, Own.mono st.fs (fun a ha o eo => by rw [upd_ne (np a ha)]; exact eo) o1, rfl⟩ ⟨fun a ha => ?_, ap1.2⟩ hR
    obtain ⟨r1, r2, r3, r4⟩ := ap1.1 a ha
    refine ⟨?_, r2, r3, r4⟩
    rw [upd_ne (np a ha)]; exact r1
/-- xs.clear() -/
theorem dm_lclear (i n : Nat) (hN : NameOk X i x := by exact ⟨rfl, by first | exact Or.inl rfl | exact Or.inr (Or.inl rfl) | exact Or.inr (Or.inr rfl), by decide, by decide⟩) (hb : Bm0Ok X (.Name x p) "clear" apos cpos := by exact ⟨rfl, rfl⟩) :
    DM X B (.Call (.Attribute (.Name x p) "clear" apos) [] [] cpos) pin (.own 0) (fun ρ R => ownLst ρ i n fun _ => R .non (ρ.set i (some (n + 1, .lst [])))) :=
  PE.imp (pe_bm0 PySem.F.plainAttrs_list PySem.F.slot_list_clear PySem.F.type_list_clear mt_clear (pe_var hN.1 hN.2 hN.3 hN.4) hb.1 hb.2) fun σ H Q ⟨Pn, Z0, F0, F, ρ, fp, R, hpl, S, hf, k⟩ => by
    obtain ⟨ds, e0, hR⟩ := hf.inv
    obtain ⟨a, vs, g, h1, h2, h3, h4, h5, h6, kk⟩ := S.lst e0
    obtain ⟨fp2, S2⟩ := kk [] [] [] [] Apart.nil (fun b hb => by cases hb) List.nodup_nil rfl
    exact ⟨_, h1, .inl ⟨rfl, _, SqL.of h2⟩, a, vs, rfl, rfl, h2, k F _ _ fp2 .non .non [] S2 (Val.atom rfl fun _ => .non) Apart.nil hR⟩
end
end GK
namespace GK
open PySem PySem.Spec PyProof.Rows L2
/-! ### is, of truth values -/
section
variable {X : Cx} {a b : Expr} {pos : Pos} {m m1 m2 : Mode} {f f' : FE}
def gIsB (n : Bool) : D → D → (D → Prop) → Prop
  | .bl x, .bl y, R => R (.bl (n ^^ decide (x = y)))
  | _, _, _ => False
theorem op2_isB {K : PySem.W.Frag} {n : Bool} : Op2 K (fun x y H Q => ∃ a b, x = .bl a ∧ y = .bl b ∧ Q (.bl (n ^^ decide (a = b))) H) m1 m2 m (gIsB n) := by
  intro B F H x y d e fp R Q w ⟨f1, f2, ef, h1, h2⟩ hf hg k
  subst ef
  cases d <;> cases e <;> try exact (show False from hg).elim
  obtain ⟨rfl, _⟩ := h1.bl
  obtain ⟨rfl, _⟩ := h2.bl
  exact ⟨_, _, rfl, rfl, k.bl w hg⟩
theorem op_isB' : OpR X (compareOp .Is) (fun x y H Q => ∃ a b, x = .bl a ∧ y = .bl b ∧ Q (.bl (false ^^ decide (a = b))) H) := fun pins s σ H x y v u Q I rx ry ⟨a, b, h1, h2, h3⟩ => op_is_bl pins s σ H x y v u Q I rx ry ⟨a, b, h1, h2, by simpa using h3⟩
theorem op_notB' : OpR X (compareOp .IsNot) (fun x y H Q => ∃ a b, x = .bl a ∧ y = .bl b ∧ Q (.bl (true ^^ decide (a = b))) H) := fun pins s σ H x y v u Q I rx ry ⟨a, b, h1, h2, h3⟩ => op_isnot_bl pins s σ H x y v u Q I rx ry ⟨a, b, h1, h2, by simpa using h3⟩
theorem de_isB (ha : DE X B a m1 f) (hb : DE X B b m2 f') : DE X B (.Compare a [.Is] [b] pos) m (fBin (gIsB false) f f') := de_cmp op_isB' op2_isB ha hb (nomark _)
theorem de_isnotB (ha : DE X B a m1 f) (hb : DE X B b m2 f') : DE X B (.Compare a [.IsNot] [b] pos) m (fBin (gIsB true) f f') := de_cmp op_notB' op2_isB ha hb (nomark _)
theorem dt_isB (ha : DE X B a m1 f) (hb : DE X B b m2 f') : DT X B (.Compare a [.Is] [b] pos) (fBool (fBin (gIsB false) f f')) := dt_cmp .rd op_isB' op2_isB ha hb (nomark _)
theorem dt_isnotB (ha : DE X B a m1 f) (hb : DE X B b m2 f') : DT X B (.Compare a [.IsNot] [b] pos) (fBool (fBin (gIsB true) f f')) := dt_cmp .rd op_notB' op2_isB ha hb (nomark _)
end
theorem gIsB_bl {n x y : Bool} {R : D → Prop} : gIsB n (.bl x) (.bl y) R = R (.bl (n ^^ decide (x = y))) := rfl
end GK

namespace GK
open PySem PySem.Spec PyProof.Rows L2
/-! ### plain data: equal exactly if the same -/
mutual
def pnD : D → Bool
  | .non => true
  | .int _ => true
  | .str _ => true
  | .tup xs => pnDs xs
  | .lst xs => pnDs xs
  | _ => false
def pnDs : List D → Bool
  | [] => true
  | d :: ds => pnD d && pnDs ds
end
mutual
theorem eqv_pn : ∀ (x y : D), pnD x = true → pnD y = true → (PyData.eqv (toP x) (toP y) = true ↔ x = y)
  | .non, y, _, h => by cases y <;> simp [pnD, toP, PyData.eqv] at h ⊢
  | .int i, y, _, h => by cases y <;> simp [pnD, toP, PyData.eqv] at h ⊢
  | .str i, y, _, h => by cases y <;> simp [pnD, toP, PyData.eqv] at h ⊢
  | .tup xs, y, g, h => by
    cases y <;> simp [pnD, toP, PyData.eqv] at g h ⊢
    exact eqvs_pn xs _ g h
  | .lst xs, y, g, h => by
    cases y <;> simp [pnD, toP, PyData.eqv] at g h ⊢
    exact eqvs_pn xs _ g h
  | .bl _, _, h, _ => by simp [pnD] at h
  | .raw _, _, h, _ => by simp [pnD] at h
  | .dK _, _, h, _ => by simp [pnD] at h
  | .dT _, _, h, _ => by simp [pnD] at h
  | .obj _ _, _, h, _ => by simp [pnD] at h
theorem eqvs_pn : ∀ (xs ys : List D), pnDs xs = true → pnDs ys = true → (PyData.eqvAll (toPs xs) (toPs ys) = true ↔ xs = ys)
  | [], ys, _, h => by cases ys <;> simp [toPs, PyData.eqvAll]
  | x :: xs, [], _, h => by simp [toPs, PyData.eqvAll]
  | x :: xs, y :: ys, g, h => by
    rw [pnDs, Bool.and_eq_true] at g h
    rw [toPs, toPs, PyData.eqvAll, Bool.and_eq_true, eqv_pn x y g.1 h.1, eqvs_pn xs ys g.2 h.2, List.cons.injEq]
end
theorem pnDs_all : ∀ {ds : List D}, (∀ d ∈ ds, pnD d = true) → pnDs ds = true
  | [], _ => rfl
  | d :: ds, h => by
    rw [pnDs, h d List.mem_cons_self, pnDs_all fun x hx => h x (List.mem_cons_of_mem _ hx)]; rfl
theorem pn_map {α : Type} {f : α → D} {l : List α} (h : ∀ a ∈ l, pnD (f a) = true) : pnDs (l.map f) = true := pnDs_all fun d hd => by
  obtain ⟨a, ha, rfl⟩ := List.mem_map.mp hd
  exact h a ha
theorem okDs_map {α : Type} {n : Nat} {f : α → D} {l : List α} (h : ∀ a ∈ l, okD n (f a) = true) : okDs n (l.map f) = true := okDs_all fun d hd => by
  obtain ⟨a, ha, rfl⟩ := List.mem_map.mp hd
  exact h a ha
theorem eqvD_iff {x y : D} (hx : pnD x = true) (hy : pnD y = true) {p : Prop} [Decidable p] (h : x = y ↔ p) : eqvD x y = decide p := by
  have := (eqv_pn x y hx hy).trans h
  unfold eqvD
  by_cases c : p
  · rw [decide_eq_true c]; exact this.mpr c
  · rw [decide_eq_false c]
    cases q : PyData.eqv (toP x) (toP y) with
    | false => rfl
    | true => exact absurd (this.mp q) c
theorem gEqD_go {n : Bool} {x y : D} {R : D → Prop} {p : Prop} [Decidable p] (h1 : okD 60 x = true) (h2 : okD 60 y = true) (hx : pnD x = true) (hy : pnD y = true) (h : x = y ↔ p) (q : R (.bl (n ^^ decide p))) : gEqD n x y R := ⟨h1, h2, by rw [eqvD_iff hx hy h]; exact q⟩
theorem gInD_go {α : Type} [DecidableEq α] {ι : α → D} {n : Bool} {x : α} {ys : List α} {R : D → Prop} (inj : ∀ a b, ι a = ι b → a = b) (pn : ∀ a, pnD (ι a) = true) (h1 : okD 63 (ι x) = true) (h2 : ∀ y ∈ ys, okD 63 (ι y) = true) (q : R (.bl (n ^^ decide (x ∈ ys)))) : gInD n (ι x) (.lst (ys.map ι)) R := by
  refine ⟨_, rfl, h1, by rw [okD]; exact okDs_map h2, ?_⟩
  have e : ((ys.map ι).any fun z => PyData.eqv (toP z) (toP (ι x))) = decide (x ∈ ys) := by
    rw [List.any_map]
    have key : ∀ l : List α, (l.any ((fun z => PyData.eqv (toP z) (toP (ι x))) ∘ ι)) = decide (x ∈ l) := fun l => by
      induction l with
      | nil => rfl
      | cons y l ih =>
        rw [List.any_cons, ih]
        have : PyData.eqv (toP (ι y)) (toP (ι x)) = decide (y = x) := eqvD_iff (pn y) (pn x) ⟨inj y x, fun e => by rw [e]⟩
        show (PyData.eqv (toP (ι y)) (toP (ι x)) || decide (x ∈ l)) = _
        rw [this]
        by_cases c : y = x
        · subst c; simp
        · have c2 : ¬ x = y := fun z => c z.symm
          simp [c, c2]
    exact key ys
  rw [e]; exact q
theorem gInD_strs {n : Bool} {x : Str} {ys : List Str} {R : D → Prop} (h1 : strOk x = true) (h2 : ∀ y ∈ ys, strOk y = true) (q : R (.bl (n ^^ decide (x ∈ ys)))) : gInD n (.str x) (.lst (ys.map .str)) R :=
  gInD_go (ι := D.str) (fun a b h => by cases h; rfl) (fun _ => rfl) h1 h2 q
/-! ### the last item -/
theorem gIx_neg {ds : List D} {x : D} {R : D → Prop} (h : ds.getLast? = some x) (q : R x) : gIx (.lst ds) (.int (-1)) R := by
  obtain ⟨l, rfl⟩ : ∃ l, ds = l ++ [x] := by
    rcases List.eq_nil_or_concat ds with z | ⟨l, y, z⟩
    · rw [z] at h; cases h
    · rw [List.concat_eq_append] at z
      rw [z, List.getLast?_append] at h
      simp at h
      exact ⟨l, by rw [z, h]⟩
  exact gIx_last q
/-! ### the type of a value -/
theorem gIsi_eq {K : PySem.W.Frag} {d : D} {a n : String} {b : Bool} {R : D → Prop} (ht : tyD d = some (.type a)) (hk : kitB a n = some b) (hn : ∀ C es, d ≠ .obj C es) : gIsi K [d, .raw (.ty n)] R = R (.bl b) := by
  apply propext
  constructor
  · rintro ⟨t, u, b', h1, h2, h3, _, h⟩
    rw [ht] at h1
    cases h1
    cases h2
    rw [kit_ty hk] at h3
    cases h3
    exact h
  · exact gIsi_go ht hk hn
theorem isi_tup_tup {K : PySem.W.Frag} {xs : List D} {R : D → Prop} : gIsi K [.tup xs, .raw (.ty "tuple")] R = R (.bl true) := gIsi_eq (a := "tuple") rfl rfl (fun _ _ e => by cases e)
theorem isi_tup_lst {K : PySem.W.Frag} {xs : List D} {R : D → Prop} : gIsi K [.tup xs, .raw (.ty "list")] R = R (.bl false) := gIsi_eq (a := "tuple") rfl rfl (fun _ _ e => by cases e)
theorem isi_tup_str {K : PySem.W.Frag} {xs : List D} {R : D → Prop} : gIsi K [.tup xs, .raw (.ty "str")] R = R (.bl false) := gIsi_eq (a := "tuple") rfl rfl (fun _ _ e => by cases e)
theorem isi_tup_int {K : PySem.W.Frag} {xs : List D} {R : D → Prop} : gIsi K [.tup xs, .raw (.ty "int")] R = R (.bl false) := gIsi_eq (a := "tuple") rfl rfl (fun _ _ e => by cases e)
theorem isi_tup_bl {K : PySem.W.Frag} {xs : List D} {R : D → Prop} : gIsi K [.tup xs, .raw (.ty "bool")] R = R (.bl false) := gIsi_eq (a := "tuple") rfl rfl (fun _ _ e => by cases e)
theorem isi_tup_dK {K : PySem.W.Frag} {xs : List D} {R : D → Prop} : gIsi K [.tup xs, .raw (.ty "dict")] R = R (.bl false) := gIsi_eq (a := "tuple") rfl rfl (fun _ _ e => by cases e)
theorem isi_lst_tup {K : PySem.W.Frag} {xs : List D} {R : D → Prop} : gIsi K [.lst xs, .raw (.ty "tuple")] R = R (.bl false) := gIsi_eq (a := "list") rfl rfl (fun _ _ e => by cases e)
theorem isi_lst_lst {K : PySem.W.Frag} {xs : List D} {R : D → Prop} : gIsi K [.lst xs, .raw (.ty "list")] R = R (.bl true) := gIsi_eq (a := "list") rfl rfl (fun _ _ e => by cases e)
theorem isi_lst_str {K : PySem.W.Frag} {xs : List D} {R : D → Prop} : gIsi K [.lst xs, .raw (.ty "str")] R = R (.bl false) := gIsi_eq (a := "list") rfl rfl (fun _ _ e => by cases e)
theorem isi_lst_int {K : PySem.W.Frag} {xs : List D} {R : D → Prop} : gIsi K [.lst xs, .raw (.ty "int")] R = R (.bl false) := gIsi_eq (a := "list") rfl rfl (fun _ _ e => by cases e)
theorem isi_lst_bl {K : PySem.W.Frag} {xs : List D} {R : D → Prop} : gIsi K [.lst xs, .raw (.ty "bool")] R = R (.bl false) := gIsi_eq (a := "list") rfl rfl (fun _ _ e => by cases e)
theorem isi_lst_dK {K : PySem.W.Frag} {xs : List D} {R : D → Prop} : gIsi K [.lst xs, .raw (.ty "dict")] R = R (.bl false) := gIsi_eq (a := "list") rfl rfl (fun _ _ e => by cases e)
theorem isi_str_tup {K : PySem.W.Frag} {s : Str} {R : D → Prop} : gIsi K [.str s, .raw (.ty "tuple")] R = R (.bl false) := gIsi_eq (a := "str") rfl rfl (fun _ _ e => by cases e)
theorem isi_str_lst {K : PySem.W.Frag} {s : Str} {R : D → Prop} : gIsi K [.str s, .raw (.ty "list")] R = R (.bl false) := gIsi_eq (a := "str") rfl rfl (fun _ _ e => by cases e)
theorem isi_str_str {K : PySem.W.Frag} {s : Str} {R : D → Prop} : gIsi K [.str s, .raw (.ty "str")] R = R (.bl true) := gIsi_eq (a := "str") rfl rfl (fun _ _ e => by cases e)
theorem isi_str_int {K : PySem.W.Frag} {s : Str} {R : D → Prop} : gIsi K [.str s, .raw (.ty "int")] R = R (.bl false) := gIsi_eq (a := "str") rfl rfl (fun _ _ e => by cases e)
theorem isi_str_bl {K : PySem.W.Frag} {s : Str} {R : D → Prop} : gIsi K [.str s, .raw (.ty "bool")] R = R (.bl false) := gIsi_eq (a := "str") rfl rfl (fun _ _ e => by cases e)
theorem isi_str_dK {K : PySem.W.Frag} {s : Str} {R : D → Prop} : gIsi K [.str s, .raw (.ty "dict")] R = R (.bl false) := gIsi_eq (a := "str") rfl rfl (fun _ _ e => by cases e)
theorem isi_int_tup {K : PySem.W.Frag} {i : Int} {R : D → Prop} : gIsi K [.int i, .raw (.ty "tuple")] R = R (.bl false) := gIsi_eq (a := "int") rfl rfl (fun _ _ e => by cases e)
theorem isi_int_lst {K : PySem.W.Frag} {i : Int} {R : D → Prop} : gIsi K [.int i, .raw (.ty "list")] R = R (.bl false) := gIsi_eq (a := "int") rfl rfl (fun _ _ e => by cases e)
theorem isi_int_str {K : PySem.W.Frag} {i : Int} {R : D → Prop} : gIsi K [.int i, .raw (.ty "str")] R = R (.bl false) := gIsi_eq (a := "int") rfl rfl (fun _ _ e => by cases e)
theorem isi_int_int {K : PySem.W.Frag} {i : Int} {R : D → Prop} : gIsi K [.int i, .raw (.ty "int")] R = R (.bl true) := gIsi_eq (a := "int") rfl rfl (fun _ _ e => by cases e)
theorem isi_int_bl {K : PySem.W.Frag} {i : Int} {R : D → Prop} : gIsi K [.int i, .raw (.ty "bool")] R = R (.bl false) := gIsi_eq (a := "int") rfl rfl (fun _ _ e => by cases e)
theorem isi_int_dK {K : PySem.W.Frag} {i : Int} {R : D → Prop} : gIsi K [.int i, .raw (.ty "dict")] R = R (.bl false) := gIsi_eq (a := "int") rfl rfl (fun _ _ e => by cases e)
theorem isi_bl_tup {K : PySem.W.Frag} {b : Bool} {R : D → Prop} : gIsi K [.bl b, .raw (.ty "tuple")] R = R (.bl false) := gIsi_eq (a := "bool") rfl rfl (fun _ _ e => by cases e)
theorem isi_bl_lst {K : PySem.W.Frag} {b : Bool} {R : D → Prop} : gIsi K [.bl b, .raw (.ty "list")] R = R (.bl false) := gIsi_eq (a := "bool") rfl rfl (fun _ _ e => by cases e)
theorem isi_bl_str {K : PySem.W.Frag} {b : Bool} {R : D → Prop} : gIsi K [.bl b, .raw (.ty "str")] R = R (.bl false) := gIsi_eq (a := "bool") rfl rfl (fun _ _ e => by cases e)
theorem isi_bl_int {K : PySem.W.Frag} {b : Bool} {R : D → Prop} : gIsi K [.bl b, .raw (.ty "int")] R = R (.bl true) := gIsi_eq (a := "bool") rfl rfl (fun _ _ e => by cases e)
theorem isi_bl_bl {K : PySem.W.Frag} {b : Bool} {R : D → Prop} : gIsi K [.bl b, .raw (.ty "bool")] R = R (.bl true) := gIsi_eq (a := "bool") rfl rfl (fun _ _ e => by cases e)
theorem isi_bl_dK {K : PySem.W.Frag} {b : Bool} {R : D → Prop} : gIsi K [.bl b, .raw (.ty "dict")] R = R (.bl false) := gIsi_eq (a := "bool") rfl rfl (fun _ _ e => by cases e)
theorem isi_non_tup {K : PySem.W.Frag}  {R : D → Prop} : gIsi K [.non, .raw (.ty "tuple")] R = R (.bl false) := gIsi_eq (a := "NoneType") rfl rfl (fun _ _ e => by cases e)
theorem isi_non_lst {K : PySem.W.Frag}  {R : D → Prop} : gIsi K [.non, .raw (.ty "list")] R = R (.bl false) := gIsi_eq (a := "NoneType") rfl rfl (fun _ _ e => by cases e)
theorem isi_non_str {K : PySem.W.Frag}  {R : D → Prop} : gIsi K [.non, .raw (.ty "str")] R = R (.bl false) := gIsi_eq (a := "NoneType") rfl rfl (fun _ _ e => by cases e)
theorem isi_non_int {K : PySem.W.Frag}  {R : D → Prop} : gIsi K [.non, .raw (.ty "int")] R = R (.bl false) := gIsi_eq (a := "NoneType") rfl rfl (fun _ _ e => by cases e)
theorem isi_non_bl {K : PySem.W.Frag}  {R : D → Prop} : gIsi K [.non, .raw (.ty "bool")] R = R (.bl false) := gIsi_eq (a := "NoneType") rfl rfl (fun _ _ e => by cases e)
theorem isi_non_dK {K : PySem.W.Frag}  {R : D → Prop} : gIsi K [.non, .raw (.ty "dict")] R = R (.bl false) := gIsi_eq (a := "NoneType") rfl rfl (fun _ _ e => by cases e)
theorem isi_dK_tup {K : PySem.W.Frag} {es : List (Key × D)} {R : D → Prop} : gIsi K [.dK es, .raw (.ty "tuple")] R = R (.bl false) := gIsi_eq (a := "dict") rfl rfl (fun _ _ e => by cases e)
theorem isi_dK_lst {K : PySem.W.Frag} {es : List (Key × D)} {R : D → Prop} : gIsi K [.dK es, .raw (.ty "list")] R = R (.bl false) := gIsi_eq (a := "dict") rfl rfl (fun _ _ e => by cases e)
theorem isi_dK_str {K : PySem.W.Frag} {es : List (Key × D)} {R : D → Prop} : gIsi K [.dK es, .raw (.ty "str")] R = R (.bl false) := gIsi_eq (a := "dict") rfl rfl (fun _ _ e => by cases e)
theorem isi_dK_int {K : PySem.W.Frag} {es : List (Key × D)} {R : D → Prop} : gIsi K [.dK es, .raw (.ty "int")] R = R (.bl false) := gIsi_eq (a := "dict") rfl rfl (fun _ _ e => by cases e)
theorem isi_dK_bl {K : PySem.W.Frag} {es : List (Key × D)} {R : D → Prop} : gIsi K [.dK es, .raw (.ty "bool")] R = R (.bl false) := gIsi_eq (a := "dict") rfl rfl (fun _ _ e => by cases e)
theorem isi_dK_dK {K : PySem.W.Frag} {es : List (Key × D)} {R : D → Prop} : gIsi K [.dK es, .raw (.ty "dict")] R = R (.bl true) := gIsi_eq (a := "dict") rfl rfl (fun _ _ e => by cases e)
end GK

namespace GK
open PySem PySem.Spec PyProof.Rows L2
section
variable {Z : Type} {ι : Z → D} {l : List Z} {t : D → Env → Option Env} {gb : FS} {E : DEnds} {ρ : Env}
/-- a loop over a mapped list -/
theorem forD_map (I : List Z → Env → Prop) (h0 : I l ρ) (hs : ∀ z r ρ, I (z :: r) ρ → ∀ N : Env → Prop, (∀ ρ2, I r ρ2 → N ρ2) → ∃ ρ', t (ι z) ρ = some ρ' ∧ gb { E with nx := N, ct := N, bk := E.nx } ρ') (hd : ∀ ρ, I [] ρ → E.nx ρ) : forD t gb (l.map ι) E ρ := by
  induction l generalizing ρ with
  | nil => exact hd ρ h0
  | cons z r ih => exact hs z r ρ h0 _ fun ρ2 h2 => ih h2
/-- .. with what is done -/
theorem forD_pre (I : List Z → List Z → Env → Prop) (h0 : I [] l ρ) (hs : ∀ dn z r ρ, dn ++ z :: r = l → I dn (z :: r) ρ → ∀ N : Env → Prop, (∀ ρ2, I (dn ++ [z]) r ρ2 → N ρ2) → ∃ ρ', t (ι z) ρ = some ρ' ∧ gb { E with nx := N, ct := N, bk := E.nx } ρ') (hd : ∀ ρ, I l [] ρ → E.nx ρ) : forD t gb (l.map ι) E ρ := by
  have key : ∀ (r dn : List Z) (ρ : Env), dn ++ r = l → I dn r ρ → forD t gb (r.map ι) E ρ := fun r => by
    induction r with
    | nil =>
      intro dn ρ e h
      rw [List.append_nil] at e
      subst e
      exact hd ρ h
    | cons z r ih =>
      intro dn ρ e h
      exact hs dn z r ρ e h _ fun ρ2 h2 => ih (dn ++ [z]) ρ2 (by rw [List.append_assoc]; exact e) h2
  exact key l [] ρ rfl h0
/-- .. over numbers -/
theorem forD_rng {a n : Nat} (I : Nat → Env → Prop) (h0 : I a ρ) (hs : ∀ k ρ, a ≤ k → k < a + n → I k ρ → ∀ N : Env → Prop, (∀ ρ2, I (k + 1) ρ2 → N ρ2) → ∃ ρ', t (natD k) ρ = some ρ' ∧ gb { E with nx := N, ct := N, bk := E.nx } ρ') (hd : ∀ ρ, I (a + n) ρ → E.nx ρ) : forD t gb ((List.range' a n).map natD) E ρ := by
  induction n generalizing a ρ with
  | zero => exact hd ρ h0
  | succ n ih =>
    rw [List.range'_succ, List.map_cons]
    exact hs a ρ (Nat.le_refl _) (by omega) h0 _ fun ρ2 h2 => ih h2 (fun k ρ h1 h2 h3 => hs k ρ (by omega) (by omega) h3) fun ρ h => hd ρ (by rw [show a + (n + 1) = a + 1 + n by omega]; exact h)
end
section
variable {Z : Type} {ι : Z → D} {xs : List Z} {t : D → Env → Option Env} {fc : FT} {fe : FE} {ρ : Env} {R : D → Prop}
/-- a comprehension without a test -/
theorem compD_all (g : Z → D) (hs : ∀ x ∈ xs, ∃ ρ', t (ι x) ρ = some ρ' ∧ ∀ N : D → Prop, N (g x) → fe ρ' N) (hl : xs.length ≤ sizeLine) (hR : R (.lst (xs.map g))) : compD t (fun _ R => R true) fe ρ (xs.map ι) [] R := by
  refine compD_map ι (fun x => some (g x)) (fun x hx N hN => ?_) hl (by rw [List.filterMap_eq_map']; exact hR)
  obtain ⟨ρ', e, h⟩ := hs x hx
  refine ⟨ρ', e, ?_⟩
  show (if true = true then _ else _)
  rw [if_pos rfl]
  exact h _ hN
/-- .. with a test -/
theorem compD_fil (p : Z → Bool) (g : Z → D) (hs : ∀ x ∈ xs, ∃ ρ', t (ι x) ρ = some ρ' ∧ (∀ N : Bool → Prop, N (p x) → fc ρ' N) ∧ (p x = true → ∀ N : D → Prop, N (g x) → fe ρ' N)) (hl : xs.length ≤ sizeLine) (hR : R (.lst ((xs.filter p).map g))) : compD t fc fe ρ (xs.map ι) [] R := by
  refine compD_map ι (fun x => if p x = true then some (g x) else none) (fun x hx N hN => ?_) hl ?_
  · obtain ⟨ρ', e, h1, h2⟩ := hs x hx
    refine ⟨ρ', e, h1 _ ?_⟩
    cases q : p x with
    | true =>
      rw [q, if_pos rfl] at hN
      rw [if_pos rfl]
      exact h2 q _ hN
    | false =>
      rw [q, if_neg Bool.false_ne_true] at hN
      rw [if_neg Bool.false_ne_true]
      exact hN
  · have : xs.filterMap (fun x => if p x = true then some (g x) else none) = (xs.filter p).map g := by
      clear hs hl hR
      induction xs with
      | nil => rfl
      | cons x r ih =>
        rw [List.filterMap_cons, List.filter_cons]
        cases q : p x with
        | true => simp [ih]
        | false => simp [ih]
    rw [this]; exact hR
end
theorem nodup_len {α : Type} [DecidableEq α] : ∀ {l m : List α}, l.Nodup → (∀ x ∈ l, x ∈ m) → l.length ≤ m.length
  | [], m, _, _ => Nat.zero_le _
  | x :: l, m, nd, h => by
    rw [List.nodup_cons] at nd
    have hx := h x List.mem_cons_self
    have := nodup_len (l := l) (m := m.erase x) nd.2 fun y hy => (List.mem_erase_of_ne fun e => nd.1 (by rw [← e]; exact hy)).mpr (h y (List.mem_cons_of_mem _ hy))
    have h2 := List.length_erase_of_mem hx
    have h3 := List.length_pos_of_mem hx
    rw [List.length_cons]
    omega
theorem gInD_by {α : Type} [DecidableEq α] {ι : α → D} {n : Bool} {x : α} {ys : List α} {R : D → Prop} (inj : ∀ a b, ι a = ι b → a = b) (pn : ∀ a, pnD (ι a) = true) (h1 : okD 63 (ι x) = true) (h2 : ∀ y ∈ ys, okD 63 (ι y) = true) (q1 : x ∈ ys → R (.bl (n ^^ true))) (q2 : x ∉ ys → R (.bl (n ^^ false))) : gInD n (ι x) (.lst (ys.map ι)) R :=
  gInD_go inj pn h1 h2 (by
    by_cases c : x ∈ ys
    · rw [decide_eq_true c]; exact q1 c
    · rw [decide_eq_false c]; exact q2 c)
end GK

namespace GK
open PySem PySem.Spec PyProof.Rows L2
/-! ### slices and sums of mapped lists -/
section
variable {α : Type} {f : α → D} {l a b : List α} {lo hi : Option Int} {R : D → Prop}
def cutA (l : List α) (lo hi : Option Int) : List α := (l.drop (HT.sIx l.length 0 lo)).take (HT.sIx l.length l.length hi - HT.sIx l.length 0 lo)
theorem cut_map : cutD (l.map f) lo hi = (cutA l lo hi).map f := by
  unfold cutD cutA
  rw [List.length_map, List.map_take, List.map_drop]
theorem cutA_mem {x : α} (h : x ∈ cutA l lo hi) : x ∈ l := List.mem_of_mem_drop (List.mem_of_mem_take h)
theorem cutA_len : (cutA l lo hi).length ≤ l.length := by
  unfold cutA
  rw [List.length_take, List.length_drop]
  omega
theorem cutA_to {k : Nat} : cutA l none (some (k : Int)) = l.take k := by
  unfold cutA
  rw [HT.sIx_none, HT.sIx_nat, List.drop_zero, Nat.sub_zero]
  by_cases h : k ≤ l.length
  · rw [Nat.min_eq_left h]
  · rw [Nat.min_eq_right (by omega), List.take_of_length_le (Nat.le_refl _), List.take_of_length_le (by omega)]
theorem cutA_from {k : Nat} : cutA l (some (k : Int)) none = l.drop k := by
  unfold cutA
  rw [HT.sIx_none, HT.sIx_nat]
  by_cases h : k ≤ l.length
  · rw [Nat.min_eq_left h, List.take_of_length_le (by rw [List.length_drop]; omega)]
  · rw [Nat.min_eq_right (by omega), List.drop_of_length_le (Nat.le_refl _), List.drop_of_length_le (show l.length ≤ k by omega), List.take_nil]
theorem gSlL_go (q : R (.lst ((cutA l lo hi).map f))) : gSlL (.lst (l.map f)) lo hi R := by
  show R (.lst (cutD (l.map f) lo hi))
  rw [cut_map]; exact q
theorem gSlL_take {k : Nat} (q : R (.lst ((l.take k).map f))) : gSlL (.lst (l.map f)) none (some (k : Int)) R := gSlL_go (by rw [cutA_to]; exact q)
theorem gSlL_drop {k : Nat} (q : R (.lst ((l.drop k).map f))) : gSlL (.lst (l.map f)) (some (k : Int)) none R := gSlL_go (by rw [cutA_from]; exact q)
theorem gCat_go (h : a.length + b.length ≤ sizeLine) (q : R (.lst ((a ++ b).map f))) : gCat (.lst (a.map f)) (.lst (b.map f)) R := by
  refine ⟨by rw [List.length_map, List.length_map]; exact h, ?_⟩
  rw [← List.map_append]; exact q
theorem cutA_mid {p c : Nat} (h : p + c ≤ l.length) : (cutA l (some (p : Int)) (some ((p + c : Nat) : Int))).length = c := by
  unfold cutA
  rw [HT.sIx_nat, HT.sIx_nat, List.length_take, List.length_drop]
  omega
theorem zeros (l : List α) : l.map (fun _ => D.int 0) = (List.replicate l.length (0 : Int)).map D.int := by rw [List.map_replicate]; exact List.map_const' ..
theorem map_get {i : Nat} (h : i < l.length) : (l.map f)[i]? = some (f l[i]) := by rw [List.getElem?_map, List.getElem?_eq_getElem h]; rfl
end
end GK

namespace GK
open PySem PySem.Spec PyProof.Rows L2
def topS (i : Nat) : Stmt := PySem.Challenge.pw_giftskept_k08_clash_of_an_alternative.main.body.getD i (.Pass ⟨0, 0, 0, 0⟩)
structure Bi (mg : Str → Option Value) : Prop where
  bool_ : mg "bool" = none
  enumerate_ : mg "enumerate" = none
  int_ : mg "int" = none
  isinstance_ : mg "isinstance" = none
  len_ : mg "len" = none
  list_ : mg "list" = none
  max_ : mg "max" = none
  min_ : mg "min" = none
  range_ : mg "range" = none
  sorted_ : mg "sorted" = none
  str_ : mg "str" = none
  tuple_ : mg "tuple" = none
end GK

namespace GK.N2

/-! ### graphs: walks, sums, rings -/
abbrev Ed := Nat × Nat × Int
def Wk (es : List Ed) : Nat → List Nat → Nat → Prop
  | s, [], v => s = v
  | s, i :: is, v => ∃ m c, es[i]? = some (s, m, c) ∧ Wk es m is v
def cst (es : List Ed) (i : Nat) : Int := match es[i]? with
  | some (_, _, c) => c
  | none => 0
def sm (es : List Ed) : List Nat → Int
  | [] => 0
  | i :: is => cst es i + sm es is
theorem cst_at {es : List Ed} {i u v : Nat} {c : Int} (h : es[i]? = some (u, v, c)) : cst es i = c := by unfold cst; rw [h]
theorem sm_append {es : List Ed} : ∀ (a b : List Nat), sm es (a ++ b) = sm es a + sm es b
  | [], b => by rw [List.nil_append]; unfold sm; omega
  | i :: a, b => by
    rw [List.cons_append]
    show cst es i + sm es (a ++ b) = cst es i + sm es a + sm es b
    rw [sm_append a b]; omega
theorem sm_one {es : List Ed} {i : Nat} : sm es [i] = cst es i := by show cst es i + 0 = _; omega
theorem wk_append {es : List Ed} : ∀ {a b : List Nat} {s v : Nat}, Wk es s (a ++ b) v ↔ ∃ m, Wk es s a m ∧ Wk es m b v
  | [], b, s, v => ⟨fun h => ⟨s, rfl, h⟩, fun ⟨m, e, h⟩ => by
    have e : s = m := e
    rw [e]; exact h⟩
  | i :: a, b, s, v => by
    constructor
    · rintro ⟨m, c, e, h⟩
      obtain ⟨k, h1, h2⟩ := wk_append.mp h
      exact ⟨k, ⟨m, c, e, h1⟩, h2⟩
    · rintro ⟨k, ⟨m, c, e, h1⟩, h2⟩
      exact ⟨m, c, e, wk_append.mpr ⟨k, h1, h2⟩⟩
theorem wk_end {es : List Ed} {is : List Nat} {s v w : Nat} : Wk es s is v → Wk es s is w → v = w := by
  induction is generalizing s with
  | nil => intro a b; exact (show s = v from a).symm.trans b
  | cons i is ih =>
    rintro ⟨m, c, e, h⟩ ⟨m', c', e', h'⟩
    rw [e] at e'
    cases e'
    exact ih h h'
theorem wk_ix {es : List Ed} {is : List Nat} {s v : Nat} (h : Wk es s is v) : ∀ i ∈ is, i < es.length := by
  induction is generalizing s with
  | nil => intro i hi; cases hi
  | cons j is ih =>
    obtain ⟨m, c, e, h⟩ := h
    intro i hi
    rcases List.mem_cons.mp hi with rfl | hi
    · exact (List.getElem?_eq_some_iff.mp e).1
    · exact ih h i hi
/-- a falling closed walk of k edges -/
def CN (es : List Ed) (k : Nat) : Prop := ∃ s is, is.length = k ∧ is ≠ [] ∧ Wk es s is s ∧ sm es is < 0
/-- .. of the fewest -/
def Least (es : List Ed) (s : Nat) (is : List Nat) : Prop := is ≠ [] ∧ Wk es s is s ∧ sm es is < 0 ∧ ∀ k, k < is.length → ¬ CN es k
theorem Least.cn {es : List Ed} {s : Nat} {is : List Nat} (h : Least es s is) : CN es is.length := ⟨s, is, rfl, h.1, h.2.1, h.2.2.1⟩
theorem cn_min {es : List Ed} : ∀ (k : Nat), CN es k → ∃ m, m ≤ k ∧ CN es m ∧ ∀ j, j < m → ¬ CN es j := by
  intro k
  induction k using Nat.strongRecOn with
  | _ k ih =>
    intro h
    by_cases c : ∃ j, j < k ∧ CN es j
    · obtain ⟨j, hj, h'⟩ := c
      obtain ⟨m, hm, q⟩ := ih j hj h'
      exact ⟨m, by omega, q⟩
    · exact ⟨k, Nat.le_refl _, h, fun j hj h' => c ⟨j, hj, h'⟩⟩

/-! ### a turn with falling prefixes -/
theorem turn_split (f : Nat → Int) (sf : List Nat → Int) (s0 : sf [] = 0) (sc : ∀ i is, sf (i :: is) = f i + sf is) : ∀ xs : List Nat, ∃ a b, xs = a ++ b ∧ (∀ p q, b = p ++ q → p ≠ [] → sf p < 0) ∧ (∀ p q, a = p ++ q → 0 ≤ sf q)
  | [] => ⟨[], [], rfl, fun p q e hp => by
      have := congrArg List.length e
      rw [List.length_append, List.length_nil] at this
      exact absurd (List.length_eq_zero_iff.mp (by omega)) hp, fun p q e => by
      have := congrArg List.length e
      rw [List.length_append, List.length_nil] at this
      rw [List.length_eq_zero_iff.mp (show q.length = 0 by omega), s0]
      exact Int.le_refl _⟩
  | x :: r => by
    have sa : ∀ a b, sf (a ++ b) = sf a + sf b := fun a b => by
      induction a with
      | nil => rw [List.nil_append, s0]; omega
      | cons i a ih => rw [List.cons_append, sc, sc, ih]; omega
    obtain ⟨a, b, e, hb, ha⟩ := turn_split f sf s0 sc r
    by_cases c : 0 ≤ f x + sf a
    · refine ⟨x :: a, b, by rw [e]; rfl, hb, fun p q e' => ?_⟩
      cases p with
      | nil =>
        rw [List.nil_append] at e'
        rw [← e', sc]; exact c
      | cons y p =>
        rw [List.cons_append] at e'
        injection e' with e1 e2
        exact ha p q e2
    · refine ⟨[], x :: (a ++ b), by rw [e]; rfl, fun p q e' hp => ?_, fun p q e' => ?_⟩
      · cases p with
        | nil => exact absurd rfl hp
        | cons y p =>
          rw [List.cons_append] at e'
          injection e' with e1 e2
          subst e1
          rw [sc]
          rcases List.append_eq_append_iff.mp e2 with ⟨z, z1, z2⟩ | ⟨z, z1, z2⟩
          · -- p = a ++ z, b = z ++ q
            rw [z1, sa]
            by_cases hz : z = []
            · rw [hz, s0]; omega
            · have := hb z q z2 hz
              omega
          · -- a = p ++ z
            have h1 := ha p z z1
            have h2 := sa p z
            rw [← z1] at h2
            omega
      · have := congrArg List.length e'
        rw [List.length_append, List.length_nil] at this
        rw [List.length_eq_zero_iff.mp (show q.length = 0 by omega), s0]
        exact Int.le_refl _
/-- every falling closed walk can be begun so that all sums on the way are below 0 -/
theorem turn_neg {es : List Ed} {s : Nat} {is : List Nat} (h : Wk es s is s) (hs : sm es is < 0) : ∃ m js, js.length = is.length ∧ Wk es m js m ∧ sm es js = sm es is ∧ ∀ p q, js = p ++ q → p ≠ [] → sm es p < 0 := by
  obtain ⟨a, b, e, hb, ha⟩ := turn_split (cst es) (sm es) rfl (fun _ _ => rfl) is
  subst e
  obtain ⟨m, h1, h2⟩ := wk_append.mp h
  rw [sm_append] at hs
  refine ⟨m, b ++ a, by rw [List.length_append, List.length_append, Nat.add_comm], wk_append.mpr ⟨s, h2, h1⟩, by rw [sm_append, sm_append]; omega, fun p q e hp => ?_⟩
  rcases List.append_eq_append_iff.mp e with ⟨z, z1, z2⟩ | ⟨z, z1, z2⟩
  · -- p = b ++ z, a = z ++ q
    have h3 := ha z q z2
    rw [z1, sm_append]
    rw [z2, sm_append] at hs
    omega
  · exact hb p z z1 hp

/-! ### the fewest: no node twice -/
theorem nodup_lt : ∀ (n : Nat) (l : List Nat), l.Nodup → (∀ x ∈ l, x < n) → l.length ≤ n
  | 0, [], _, _ => Nat.le_refl _
  | 0, x :: l, _, h => absurd (h x List.mem_cons_self) (by omega)
  | n + 1, l, nd, h => by
    have h1 := nodup_lt n (l.erase n) (nd.erase n) fun x hx => by
      have := h x (List.mem_of_mem_erase hx)
      have : x ≠ n := (nd.mem_erase_iff.mp hx).1
      omega
    rw [List.length_erase] at h1
    split at h1 <;> omega
def tl (es : List Ed) (i : Nat) : Nat := match es[i]? with
  | some (u, _, _) => u
  | none => 0
theorem tl_at {es : List Ed} {i u v : Nat} {c : Int} (h : es[i]? = some (u, v, c)) : tl es i = u := by unfold tl; rw [h]
theorem wk_tl {es : List Ed} {s v i : Nat} {is : List Nat} (h : Wk es s (i :: is) v) : tl es i = s := by
  obtain ⟨m, c, e, _⟩ := h
  exact tl_at e
theorem Least.tails {es : List Ed} {s : Nat} {is : List Nat} (h : Least es s is) : (is.map (tl es)).Nodup := by
  obtain ⟨h0, hw, hs, hm⟩ := h
  rw [List.nodup_iff_pairwise_ne, List.pairwise_map]
  rw [List.pairwise_iff_getElem]
  intro i j hi hj hij eq
  -- is = a ++ b ++ c
  have e1 : is = is.take i ++ (is.drop i) := (List.take_append_drop i is).symm
  have e2 : is.drop i = (is.drop i).take (j - i) ++ is.drop j := by
    have := (List.take_append_drop (j - i) (is.drop i)).symm
    rw [List.drop_drop, show i + (j - i) = j by omega] at this
    exact this
  have hw' := hw
  rw [e1] at hw'
  obtain ⟨m, w1, w2⟩ := wk_append.mp hw'
  rw [e2] at w2
  obtain ⟨k, w3, w4⟩ := wk_append.mp w2
  have di : is.drop i = is[i] :: is.drop (i + 1) := List.drop_eq_getElem_cons hi
  have dj : is.drop j = is[j] :: is.drop (j + 1) := List.drop_eq_getElem_cons hj
  have em : m = tl es is[i] := by
    rw [← e2, di] at w2
    exact (wk_tl w2).symm
  have ek : k = tl es is[j] := by
    rw [dj] at w4
    exact (wk_tl w4).symm
  have ekm : k = m := by rw [em, ek]; exact eq.symm
  subst ekm
  have s1 : sm es is = sm es (is.take i) + (sm es ((is.drop i).take (j - i)) + sm es (is.drop j)) := by
    rw [← sm_append, ← e2, ← sm_append, ← e1]
  have l1 : ((is.drop i).take (j - i)).length = j - i := by rw [List.length_take, List.length_drop]; omega
  have l2 : (is.take i ++ is.drop j).length = is.length - (j - i) := by rw [List.length_append, List.length_take, List.length_drop]; omega
  by_cases c : sm es ((is.drop i).take (j - i)) < 0
  · exact hm (j - i) (by omega) ⟨k, _, l1, fun z => by rw [z] at l1; simp at l1; omega, w3, c⟩
  · refine hm (is.length - (j - i)) (by omega) ⟨s, _, l2, fun z => ?_, wk_append.mpr ⟨k, w1, w4⟩, by rw [sm_append]; omega⟩
    rw [z] at l2; simp at l2; omega
/-- all ends below n -/
def Wf (es : List Ed) (n : Nat) : Prop := ∀ e ∈ es, e.1 < n ∧ e.2.1 < n
theorem Wf.at {es : List Ed} {n i u v : Nat} {c : Int} (w : Wf es n) (h : es[i]? = some (u, v, c)) : u < n ∧ v < n := w _ (List.mem_of_getElem? h)
theorem wk_tl_lt {es : List Ed} {n : Nat} (w : Wf es n) : ∀ {is : List Nat} {s v : Nat}, Wk es s is v → ∀ x ∈ is.map (tl es), x < n
  | [], _, _, _, x, hx => by cases hx
  | i :: is, s, v, ⟨m, c, e, h⟩, x, hx => by
    rw [List.map_cons] at hx
    rcases List.mem_cons.mp hx with rfl | hx
    · rw [tl_at e]; exact (w.at e).1
    · exact wk_tl_lt w h x hx
theorem Least.le {es : List Ed} {n s : Nat} {is : List Nat} (w : Wf es n) (h : Least es s is) : is.length ≤ n := by
  have := nodup_lt n _ h.tails (wk_tl_lt w h.2.1)
  rwa [List.length_map] at this

/-! ### sums by prices -/
def red (p : Nat → Int) (es : List Ed) : List Ed := es.map fun e => (e.1, e.2.1, e.2.2 + p e.1 - p e.2.1)
theorem red_get {p : Nat → Int} {es : List Ed} {i u v : Nat} {c : Int} : (red p es)[i]? = some (u, v, c) ↔ es[i]? = some (u, v, c - p u + p v) := by
  unfold red
  rw [List.getElem?_map]
  cases q : es[i]? with
  | none => simp
  | some e =>
    obtain ⟨a, b, d⟩ := e
    simp only [Option.map_some, Option.some.injEq, Prod.mk.injEq]
    constructor
    · rintro ⟨rfl, rfl, rfl⟩; exact ⟨rfl, rfl, by omega⟩
    · rintro ⟨rfl, rfl, rfl⟩; exact ⟨rfl, rfl, by omega⟩
theorem red_wk {p : Nat → Int} {es : List Ed} : ∀ {is : List Nat} {s v : Nat}, Wk (red p es) s is v ↔ Wk es s is v
  | [], s, v => Iff.rfl
  | i :: is, s, v => by
    constructor
    · rintro ⟨m, c, e, h⟩
      exact ⟨m, _, red_get.mp e, red_wk.mp h⟩
    · rintro ⟨m, c, e, h⟩
      exact ⟨m, c + p s - p m, red_get.mpr (by rw [e, show c + p s - p m - p s + p m = c by omega]), red_wk.mpr h⟩
theorem red_sm {p : Nat → Int} {es : List Ed} : ∀ {is : List Nat} {s v : Nat}, Wk es s is v → sm (red p es) is = sm es is + p s - p v
  | [], s, v, h => by
    have h : s = v := h
    subst h
    show (0 : Int) = 0 + p s - p s
    omega
  | i :: is, s, v, ⟨m, c, e, h⟩ => by
    show cst (red p es) i + sm (red p es) is = cst es i + sm es is + p s - p v
    have e' : (red p es)[i]? = some (s, m, c + p s - p m) := red_get.mpr (by rw [e, show c + p s - p m - p s + p m = c by omega])
    rw [red_sm h, cst_at e, cst_at e']
    omega
theorem red_cn {p : Nat → Int} {es : List Ed} {k : Nat} : CN (red p es) k ↔ CN es k := by
  constructor
  · rintro ⟨s, is, h1, h2, h3, h4⟩
    have h3' := red_wk.mp h3
    rw [red_sm h3'] at h4
    exact ⟨s, is, h1, h2, h3', by omega⟩
  · rintro ⟨s, is, h1, h2, h3, h4⟩
    exact ⟨s, is, h1, h2, red_wk.mpr h3, by rw [red_sm h3]; omega⟩
theorem red_least {p : Nat → Int} {es : List Ed} {s : Nat} {is : List Nat} (h : Least (red p es) s is) : Least es s is := by
  obtain ⟨h1, h2, h3, h4⟩ := h
  have h2' := red_wk.mp h2
  rw [red_sm h2'] at h3
  exact ⟨h1, h2', by omega, fun k hk c => h4 k hk (red_cn.mpr c)⟩
/-- prices that stand: nothing falls -/
theorem feas_no {p : Nat → Int} {es : List Ed} (h : ∀ (i u v : Nat) (c : Int), es[i]? = some (u, v, c) → p v ≤ p u + c) (k : Nat) : ¬ CN es k := by
  have key : ∀ {is : List Nat} {s v : Nat}, Wk es s is v → p v - p s ≤ sm es is := by
    intro is
    induction is with
    | nil =>
      intro s v w
      have w : s = v := w
      subst w
      show p s - p s ≤ (0 : Int)
      omega
    | cons i is ih =>
      rintro s v ⟨m, c, e, w⟩
      have h1 := ih w
      have h2 := h i s m c e
      show p v - p s ≤ cst es i + sm es is
      rw [cst_at e]; omega
  rintro ⟨s, is, _, _, w, hs⟩
  have := key w
  omega
end GK.N2

namespace GK.N2

/-! ### prices and the last edges -/
abbrev pf (ps : List Int) (v : Nat) : Int := ps.getD v 0
abbrev lf (la : List (Option Nat)) (v : Nat) : Option Nat := la.getD v none
theorem getD_set {α : Type} {l : List α} {v w : Nat} {x d : α} (h : v < l.length) : (l.set v x).getD w d = if w = v then x else l.getD w d := by
  rw [List.getD_eq_getElem?_getD, List.getD_eq_getElem?_getD, List.getElem?_set]
  by_cases e : v = w
  · subst e; simp [h]
  · rw [if_neg e, if_neg (fun z => e z.symm)]
theorem tele {es : List Ed} {q : Nat → Int} : ∀ {is : List Nat} {s v : Nat}, Wk es s is v → (∀ i ∈ is, ∀ a b d, es[i]? = some (a, b, d) → d ≤ q b - q a) → sm es is ≤ q v - q s
  | [], s, v, w, _ => by
    have w : s = v := w
    subst w
    show (0 : Int) ≤ q s - q s
    omega
  | i :: is, s, v, ⟨m, c, e, w⟩, h => by
    have h1 := tele w fun j hj => h j (List.mem_cons_of_mem _ hj)
    have h2 := h i List.mem_cons_self s m c e
    show cst es i + sm es is ≤ _
    rw [cst_at e]; omega
theorem tele_lt {es : List Ed} {q : Nat → Int} {j : Nat} : ∀ {is : List Nat} {s v : Nat}, Wk es s is v → (∀ i ∈ is, ∀ a b d, es[i]? = some (a, b, d) → d ≤ q b - q a) → j ∈ is → (∀ a b d, es[j]? = some (a, b, d) → d < q b - q a) → sm es is < q v - q s
  | [], s, v, w, _, hj, _ => by cases hj
  | i :: is, s, v, ⟨m, c, e, w⟩, h, hj, hl => by
    have h2 := h i List.mem_cons_self s m c e
    show cst es i + sm es is < _
    rw [cst_at e]
    rcases List.mem_cons.mp hj with rfl | hj
    · have h1 := tele w fun j hj => h j (List.mem_cons_of_mem _ hj)
      have h3 := hl s m c e
      omega
    · have h1 := tele_lt w (fun j hj => h j (List.mem_cons_of_mem _ hj)) hj hl
      omega
structure Inv (es : List Ed) (n : Nat) (ps : List Int) (la : List (Option Nat)) : Prop where
  lp : ps.length = n
  ll : la.length = n
  i0 : ∀ v, v < n → lf la v = none → pf ps v = 0
  i1 : ∀ v i, v < n → lf la v = some i → ∃ u c, es[i]? = some (u, v, c) ∧ pf ps u + c ≤ pf ps v
  i2 : ∀ s is, is ≠ [] → Wk es s is s → (∀ i ∈ is, ∃ v, v < n ∧ lf la v = some i) → sm es is < 0
theorem Inv.start (es : List Ed) (n : Nat) : Inv es n (List.replicate n 0) (List.replicate n none) where
  lp := List.length_replicate ..
  ll := List.length_replicate ..
  i0 := fun v hv _ => by unfold pf; rw [List.getD_eq_getElem?_getD, List.getElem?_replicate, if_pos hv]; rfl
  i1 := fun v i hv h => by unfold lf at h; rw [List.getD_eq_getElem?_getD, List.getElem?_replicate, if_pos hv] at h; cases h
  i2 := fun s is h0 _ h => by
    cases is with
    | nil => exact absurd rfl h0
    | cons i is =>
      obtain ⟨v, hv, h⟩ := h i List.mem_cons_self
      unfold lf at h; rw [List.getD_eq_getElem?_getD, List.getElem?_replicate, if_pos hv] at h; cases h
theorem Inv.relax {es : List Ed} {n : Nat} {ps : List Int} {la : List (Option Nat)} (I : Inv es n ps la) {j u v : Nat} {c : Int} (e : es[j]? = some (u, v, c)) (hu : u < n) (hv : v < n) (h : pf ps u + c < pf ps v) :
    Inv es n (ps.set v (pf ps u + c)) (la.set v (some j)) := by
  have hp : ∀ w, pf (ps.set v (pf ps u + c)) w = if w = v then pf ps u + c else pf ps w := fun w => getD_set (by rw [I.lp]; exact hv)
  have hl : ∀ w, lf (la.set v (some j)) w = if w = v then some j else lf la w := fun w => getD_set (by rw [I.ll]; exact hv)
  refine ⟨by rw [List.length_set]; exact I.lp, by rw [List.length_set]; exact I.ll, fun w hw h0 => ?_, fun w i hw h1 => ?_, fun s is h0 hw h1 => ?_⟩
  · rw [hl] at h0
    split at h0
    · cases h0
    · rename_i q
      rw [hp, if_neg q]
      exact I.i0 w hw h0
  · rw [hl] at h1
    by_cases q : w = v
    · rw [if_pos q] at h1
      cases h1
      subst q
      refine ⟨u, c, e, ?_⟩
      rw [hp, hp, if_pos rfl]
      split
      · rename_i q2
        subst q2
        omega
      · omega
    · rw [if_neg q] at h1
      obtain ⟨u', c', e', h2⟩ := I.i1 w i hw h1
      refine ⟨u', c', e', ?_⟩
      rw [hp, hp, if_neg q]
      split
      · rename_i q2
        subst q2
        omega
      · exact h2
  · have old : ∀ i ∈ is, i ≠ j → ∃ x, x < n ∧ lf la x = some i := fun i hi ne => by
      obtain ⟨x, hx, h2⟩ := h1 i hi
      rw [hl] at h2
      split at h2
      · cases h2; exact absurd rfl ne
      · exact ⟨x, hx, h2⟩
    by_cases hj : j ∈ is
    · have := tele_lt (q := pf ps) hw (fun i hi a b d e' => ?_) hj (fun a b d e' => ?_)
      · omega
      · by_cases q : i = j
        · subst q
          rw [e] at e'
          cases e'
          omega
        · obtain ⟨x, hx, h2⟩ := old i hi q
          obtain ⟨u', c', e2, h3⟩ := I.i1 x i hx h2
          rw [e2] at e'
          cases e'
          omega
      · rw [e] at e'
        cases e'
        omega
    · exact I.i2 s is h0 hw fun i hi => old i hi fun q => hj (q ▸ hi)
/-- within a round: k edges seen -/
structure Rd (es : List Ed) (n : Nat) (p0 ps : List Int) (la : List (Option Nat)) (fl : Bool) (k : Nat) : Prop where
  inv : Inv es n ps la
  le : ∀ v, v < n → pf ps v ≤ pf p0 v
  ed : ∀ i, i < k → ∀ u v c, es[i]? = some (u, v, c) → pf ps v ≤ pf p0 u + c
  f0 : fl = false → ps = p0
  f1 : fl = true → ∃ v, v < n ∧ pf ps v < pf p0 v
theorem Rd.start {es : List Ed} {n : Nat} {ps : List Int} {la : List (Option Nat)} (I : Inv es n ps la) : Rd es n ps ps la false 0 :=
  ⟨I, fun v _ => Int.le_refl _, fun i hi => absurd hi (Nat.not_lt_zero _), fun _ => rfl, fun h => by cases h⟩
theorem Rd.relax {es : List Ed} {n k u v : Nat} {p0 ps : List Int} {la : List (Option Nat)} {fl : Bool} {c : Int} (w : Wf es n) (R : Rd es n p0 ps la fl k) (e : es[k]? = some (u, v, c)) (h : pf ps u + c < pf ps v) :
    Rd es n p0 (ps.set v (pf ps u + c)) (la.set v (some k)) true (k + 1) := by
  obtain ⟨hu, hv⟩ := w.at e
  have hp : ∀ x, pf (ps.set v (pf ps u + c)) x = if x = v then pf ps u + c else pf ps x := fun x => getD_set (by rw [R.inv.lp]; exact hv)
  have lower : ∀ x, pf (ps.set v (pf ps u + c)) x ≤ pf ps x := fun x => by
    rw [hp]
    split
    · rename_i q; rw [q]; omega
    · exact Int.le_refl _
  refine ⟨R.inv.relax e hu hv h, fun x hx => Int.le_trans (lower x) (R.le x hx), fun i hi a b d e' => ?_, fun z => (by cases z), fun _ => ⟨v, hv, ?_⟩⟩
  · by_cases q : i = k
    · subst q
      rw [e] at e'
      cases e'
      rw [hp, if_pos rfl]
      have := R.le u hu
      omega
    · exact Int.le_trans (lower b) (R.ed i (by omega) a b d e')
  · rw [hp, if_pos rfl]
    have := R.le v hv
    omega
theorem Rd.skip {es : List Ed} {n k u v : Nat} {p0 ps : List Int} {la : List (Option Nat)} {fl : Bool} {c : Int} (w : Wf es n) (R : Rd es n p0 ps la fl k) (e : es[k]? = some (u, v, c)) (h : ¬ pf ps u + c < pf ps v) : Rd es n p0 ps la fl (k + 1) := by
  obtain ⟨hu, hv⟩ := w.at e
  refine ⟨R.inv, R.le, fun i hi a b d e' => ?_, R.f0, R.f1⟩
  by_cases q : i = k
  · subst q
    rw [e] at e'
    cases e'
    have := R.le u hu
    omega
  · exact R.ed i (by omega) a b d e'
theorem Rd.none {es : List Ed} {n : Nat} {p0 ps : List Int} {la : List (Option Nat)} (R : Rd es n p0 ps la false es.length) (k : Nat) : ¬ CN es k := by
  refine feas_no (p := pf ps) (fun i u v c e => ?_) k
  have h1 := R.ed i (List.getElem?_eq_some_iff.mp e).1 u v c e
  rw [← R.f0 rfl] at h1
  exact h1

/-! ### the rounds so far -/
def HI (es : List Ed) (n i : Nat) (ps : List Int) : Prop := ∃ h : Nat → Nat → Int, (∀ v, v < n → h 0 v = 0) ∧ (∀ v, v < n → h i v = pf ps v) ∧ ∀ j, j < i → (∀ v, v < n → h (j + 1) v ≤ h j v) ∧ (∀ (k u v : Nat) (c : Int), es[k]? = some (u, v, c) → h (j + 1) v ≤ h j u + c) ∧ ∃ v, v < n ∧ h (j + 1) v < h j v
theorem HI.start (es : List Ed) (n : Nat) : HI es n 0 (List.replicate n 0) := ⟨fun _ _ => 0, fun _ _ => rfl, fun v hv => by unfold pf; rw [List.getD_eq_getElem?_getD, List.getElem?_replicate, if_pos hv]; rfl, fun j hj => absurd hj (Nat.not_lt_zero _)⟩
theorem HI.next {es : List Ed} {n i : Nat} {p0 ps : List Int} {la : List (Option Nat)} (w : Wf es n) (H : HI es n i p0) (R : Rd es n p0 ps la true es.length) : HI es n (i + 1) ps := by
  obtain ⟨h, h0, h1, h2⟩ := H
  refine ⟨fun j v => if j ≤ i then h j v else pf ps v, fun v hv => ?_, fun v hv => ?_, fun j hj => ?_⟩
  · dsimp only; rw [if_pos (Nat.zero_le _)]; exact h0 v hv
  · dsimp only; rw [if_neg (by omega)]
  · by_cases q : j < i
    · obtain ⟨a, b, v, c1, c2⟩ := h2 j q
      refine ⟨fun v hv => ?_, fun k u v c e => ?_, v, c1, ?_⟩
      · dsimp only; rw [if_pos (by omega), if_pos (by omega)]; exact a v hv
      · dsimp only; rw [if_pos (by omega), if_pos (by omega)]; exact b k u v c e
      · dsimp only; rw [if_pos (by omega), if_pos (by omega)]; exact c2
    · have q : j = i := by omega
      subst q
      obtain ⟨v, c1, c2⟩ := R.f1 rfl
      refine ⟨fun v hv => ?_, fun k u v c e => ?_, v, c1, ?_⟩
      · dsimp only; rw [if_neg (by omega), if_pos (by omega), h1 v hv]; exact R.le v hv
      · dsimp only; rw [if_neg (by omega), if_pos (by omega), h1 u (w.at e).1]
        exact R.ed k (List.getElem?_eq_some_iff.mp e).1 u v c e
      · dsimp only; rw [if_neg (by omega), if_pos (by omega), h1 v c1]; exact c2
/-- the last edges lead from v to a node without one, in d steps -/
def Gr (es : List Ed) (la : List (Option Nat)) : Nat → Nat → Prop
  | 0, v => lf la v = none
  | d + 1, v => ∃ i u c, lf la v = some i ∧ es[i]? = some (u, v, c) ∧ Gr es la d u
/-- .. from x to y in j steps -/
def PP (es : List Ed) (la : List (Option Nat)) : Nat → Nat → Nat → Prop
  | 0, x, y => x = y
  | j + 1, x, y => ∃ i u c, lf la x = some i ∧ es[i]? = some (u, x, c) ∧ PP es la j u y
theorem Gr.uniq {es : List Ed} {la : List (Option Nat)} : ∀ {d d' v : Nat}, Gr es la d v → Gr es la d' v → d = d'
  | 0, 0, _, _, _ => rfl
  | 0, d + 1, v, h, ⟨i, u, c, e, _⟩ => by rw [show lf la v = none from h] at e; cases e
  | d + 1, 0, v, ⟨i, u, c, e, _⟩, h => by rw [show lf la v = none from h] at e; cases e
  | d + 1, d' + 1, v, ⟨i, u, c, e, e2, g⟩, ⟨i', u', c', e', e2', g'⟩ => by
    rw [e] at e'
    cases e'
    rw [e2] at e2'
    cases e2'
    rw [Gr.uniq g g']
theorem PP.snoc {es : List Ed} {la : List (Option Nat)} : ∀ {j x y i u : Nat} {c : Int}, PP es la j x y → lf la y = some i → es[i]? = some (u, y, c) → PP es la (j + 1) x u
  | 0, x, y, i, u, c, h, e, e2 => by
    have h : x = y := h
    subst h
    exact ⟨i, u, c, e, e2, rfl⟩
  | j + 1, x, y, i, u, c, ⟨i', u', c', e', e2', h⟩, e, e2 => ⟨i', u', c', e', e2', PP.snoc h e e2⟩
theorem PP.gr {es : List Ed} {la : List (Option Nat)} : ∀ {j x y d : Nat}, PP es la j x y → Gr es la d y → ∃ d', Gr es la d' x
  | 0, x, y, d, h, g => by
    have h : x = y := h
    subst h
    exact ⟨d, g⟩
  | j + 1, x, y, d, ⟨i, u, c, e, e2, h⟩, g => by
    obtain ⟨d', g'⟩ := PP.gr h g
    exact ⟨d' + 1, i, u, c, e, e2, g'⟩
theorem Gr.chain {es : List Ed} {la : List (Option Nat)} {n : Nat} (w : Wf es n) : ∀ {d v : Nat}, Gr es la d v → v < n → ∃ l : List Nat, l.length = d + 1 ∧ l.Nodup ∧ ∀ x ∈ l, x < n ∧ ∃ d', d' ≤ d ∧ Gr es la d' x
  | 0, v, h, hv => ⟨[v], rfl, by simp, fun x hx => by rw [List.mem_singleton.mp hx]; exact ⟨hv, 0, Nat.le_refl _, h⟩⟩
  | d + 1, v, ⟨i, u, c, e, e2, g⟩, hv => by
    obtain ⟨l, h1, h2, h3⟩ := Gr.chain w g (w.at e2).1
    refine ⟨v :: l, by rw [List.length_cons, h1], List.nodup_cons.mpr ⟨fun hm => ?_, h2⟩, fun x hx => ?_⟩
    · obtain ⟨_, d', hd, g'⟩ := h3 v hm
      have := Gr.uniq g' (show Gr es la (d + 1) v from ⟨i, u, c, e, e2, g⟩)
      omega
    · rcases List.mem_cons.mp hx with rfl | hx
      · exact ⟨hv, d + 1, Nat.le_refl _, i, u, c, e, e2, g⟩
      · obtain ⟨a, d', hd, g'⟩ := h3 x hx
        exact ⟨a, d', by omega, g'⟩
/-- after n rounds that all changed something the last edges can't all lead out -/
theorem HI.absurd {es : List Ed} {n : Nat} {ps : List Int} {la : List (Option Nat)} (w : Wf es n) (hn : 0 < n) (I : Inv es n ps la) (H : HI es n n ps) (G : ∀ v, v < n → ∃ d, Gr es la d v) : False := by
  obtain ⟨h, h0, h1, h2⟩ := H
  have mono : ∀ v, v < n → ∀ k j, j + k ≤ n → h (j + k) v ≤ h j v := fun v hv k => by
    induction k with
    | zero => intro j _; exact Int.le_refl _
    | succ k ih =>
      intro j hj
      have a := (h2 (j + k) (by omega)).1 v hv
      have b := ih j (by omega)
      rw [show j + (k + 1) = j + k + 1 by omega]
      omega
  have fin : ∀ d v, v < n → Gr es la d v → ∀ j, d ≤ j → j ≤ n → h j v = pf ps v := by
    intro d
    induction d with
    | zero =>
      intro v hv g j _ hj
      have a := I.i0 v hv g
      have b := mono v hv j 0 (by omega)
      have c := mono v hv (n - j) j (by omega)
      rw [show j + (n - j) = n by omega, h1 v hv] at c
      rw [Nat.zero_add, h0 v hv] at b
      omega
    | succ d ih =>
      intro v hv ⟨i, u, c, e, e2, g⟩ j hd hj
      obtain ⟨u', c', e3, le⟩ := I.i1 v i hv e
      rw [e2] at e3
      cases e3
      have a := ih u (w.at e2).1 g (j - 1) (by omega) (by omega)
      have b := (h2 (j - 1) (by omega)).2.1 i u v c e2
      rw [show j - 1 + 1 = j by omega] at b
      have cc := mono v hv (n - j) j (by omega)
      rw [show j + (n - j) = n by omega, h1 v hv] at cc
      omega
  obtain ⟨v, hv, lt⟩ := (h2 (n - 1) (by omega)).2.2
  obtain ⟨d, g⟩ := G v hv
  obtain ⟨l, l1, l2, l3⟩ := g.chain w hv
  have := nodup_lt n l l2 fun x hx => (l3 x hx).1
  have a := fin d v hv g (n - 1) (by omega) (by omega)
  have b := fin d v hv g n (by omega) (by omega)
  rw [show n - 1 + 1 = n by omega] at lt
  omega
end GK.N2

namespace GK.N2

/-! ### tables by node -/
section
variable {β : Type}
def gt (l : List (Nat × β)) (k : Nat) : Option β := (l.find? fun e => decide (e.1 = k)).map (·.2)
def ins (l : List (Nat × β)) (k : Nat) (v : β) : List (Nat × β) :=
  if (l.any fun e => decide (e.1 = k)) = true then l.map (fun e => if e.1 = k then (e.1, v) else e) else l ++ [(k, v)]
theorem gt_nil {k : Nat} : gt ([] : List (Nat × β)) k = none := rfl
theorem gt_cons {e : Nat × β} {l : List (Nat × β)} {k : Nat} : gt (e :: l) k = if e.1 = k then some e.2 else gt l k := by
  unfold gt
  rw [List.find?_cons]
  by_cases h : e.1 = k <;> simp [h]
theorem gt_mem {l : List (Nat × β)} {k : Nat} {v : β} (h : gt l k = some v) : (k, v) ∈ l := by
  induction l with
  | nil => cases h
  | cons e l ih =>
    rw [gt_cons] at h
    split at h
    · rename_i q
      cases h
      rw [← q]; exact List.mem_cons_self
    · exact List.mem_cons_of_mem _ (ih h)
theorem gt_none {l : List (Nat × β)} {k : Nat} : gt l k = none ↔ k ∉ l.map (·.1) := by
  induction l with
  | nil => simp [gt_nil]
  | cons e l ih =>
    rw [gt_cons, List.map_cons, List.mem_cons]
    by_cases h : e.1 = k
    · rw [if_pos h]; simp [h]
    · rw [if_neg h, ih]
      exact ⟨fun q z => z.elim (fun z => h z.symm) q, fun q z => q (.inr z)⟩
theorem gt_of_mem {l : List (Nat × β)} {k : Nat} {v : β} (nd : (l.map (·.1)).Nodup) (h : (k, v) ∈ l) : gt l k = some v := by
  induction l with
  | nil => cases h
  | cons e l ih =>
    rw [gt_cons]
    rw [List.map_cons, List.nodup_cons] at nd
    rcases List.mem_cons.mp h with rfl | h
    · rw [if_pos rfl]
    · have q : ¬ e.1 = k := fun z => nd.1 (by rw [z]; exact List.mem_map.mpr ⟨(k, v), h, rfl⟩)
      rw [if_neg q, ih nd.2 h]
theorem any_key {l : List (Nat × β)} {k : Nat} : (l.any fun e => decide (e.1 = k)) = true ↔ k ∈ l.map (·.1) := by
  rw [List.any_eq_true, List.mem_map]
  constructor
  · rintro ⟨e, h1, h2⟩; exact ⟨e, h1, of_decide_eq_true h2⟩
  · rintro ⟨e, h1, h2⟩; exact ⟨e, h1, decide_eq_true h2⟩
theorem ins_new {l : List (Nat × β)} {k : Nat} {v : β} (h : k ∉ l.map (·.1)) : ins l k v = l ++ [(k, v)] := by
  unfold ins; rw [if_neg (fun z => h (any_key.mp z))]
theorem ins_keys_old {l : List (Nat × β)} {k : Nat} {v : β} (h : k ∈ l.map (·.1)) : (ins l k v).map (·.1) = l.map (·.1) := by
  unfold ins
  rw [if_pos (any_key.mpr h), List.map_map]
  refine List.map_congr_left fun e _ => ?_
  show (if e.1 = k then (e.1, v) else e).1 = e.1
  split <;> rfl
theorem ins_keys {l : List (Nat × β)} {k : Nat} {v : β} : ∀ x, x ∈ (ins l k v).map (·.1) ↔ x ∈ l.map (·.1) ∨ x = k := by
  intro x
  by_cases h : k ∈ l.map (·.1)
  · rw [ins_keys_old h]
    exact ⟨.inl, fun z => z.elim id fun z => z ▸ h⟩
  · rw [ins_new h, List.map_append, List.mem_append, List.map_cons, List.map_nil, List.mem_singleton]
theorem ins_nodup {l : List (Nat × β)} {k : Nat} {v : β} (nd : (l.map (·.1)).Nodup) : ((ins l k v).map (·.1)).Nodup := by
  by_cases h : k ∈ l.map (·.1)
  · rw [ins_keys_old h]; exact nd
  · rw [ins_new h, List.map_append]
    exact List.nodup_append.mpr ⟨nd, by simp, fun a ha b hb e => by
      rw [List.map_cons, List.map_nil, List.mem_singleton] at hb
      have hb : b = k := hb
      subst e
      subst hb
      exact h ha⟩
theorem gt_ins {l : List (Nat × β)} {k x : Nat} {v : β} : gt (ins l k v) x = if x = k then some v else gt l x := by
  by_cases h : k ∈ l.map (·.1)
  · unfold ins
    rw [if_pos (any_key.mpr h)]
    induction l with
    | nil => cases h
    | cons e l ih =>
      rw [List.map_cons, gt_cons, gt_cons]
      by_cases q : e.1 = k
      · rw [if_pos q]
        by_cases hx : x = k
        · rw [if_pos hx, if_pos (by rw [q, hx])]
        · rw [if_neg hx, if_neg (fun z => hx (z.symm.trans q)), if_neg (fun z => hx (z.symm.trans q))]
          by_cases h2 : k ∈ l.map (·.1)
          · have := ih h2
            rw [if_neg hx] at this; exact this
          · have e1 : l.map (fun e => if e.1 = k then (e.1, v) else e) = l := by
              rw [List.map_congr_left (g := id) fun e he => ?_, List.map_id]
              exact if_neg (fun z : e.1 = k => h2 (by rw [← z]; exact List.mem_map.mpr ⟨e, he, rfl⟩))
            rw [e1]
      · rw [if_neg q]
        have h2 : k ∈ l.map (·.1) := by
          rw [List.map_cons] at h
          exact (List.mem_cons.mp h).elim (fun z => absurd z.symm q) id
        rw [ih h2]
        by_cases hx : x = k
        · rw [if_pos hx, if_neg (fun z => q (z.trans hx)), if_pos hx]
        · rw [if_neg hx, if_neg hx]
  · rw [ins_new h]
    have key : ∀ l : List (Nat × β), k ∉ l.map (·.1) → gt (l ++ [(k, v)]) x = if x = k then some v else gt l x := fun l => by
      induction l with
      | nil =>
        intro _
        rw [List.nil_append, gt_cons, gt_nil]
        by_cases hx : x = k
        · rw [if_pos hx, if_pos hx.symm]
        · rw [if_neg hx, if_neg fun z => hx z.symm]
      | cons e l ih =>
        intro hk
        rw [List.map_cons] at hk
        rw [List.cons_append, gt_cons, gt_cons, ih fun z => hk (List.mem_cons_of_mem _ z)]
        by_cases q : e.1 = x
        · have hx : ¬ x = k := fun z => hk (by rw [← z, ← q]; exact List.mem_cons_self)
          rw [if_pos q, if_neg hx, if_pos q]
        · rw [if_neg q, if_neg q]
    exact key l h
theorem ins_len {l : List (Nat × β)} {k : Nat} {v : β} : (ins l k v).length ≤ l.length + 1 := by
  unfold ins
  split
  · rw [List.length_map]; omega
  · rw [List.length_append, List.length_singleton]; omega
end

/-! ### the search for a ring of last edges -/
structure AI (es : List Ed) (la : List (Option Nat)) (n k : Nat) (sn : List (Nat × Nat)) (node : Nat) : Prop where
  nd : (sn.map (·.1)).Nodup
  lt : node < n
  it : ∀ x w, (x, w) ∈ sn → x < n ∧ w ≤ k ∧ (w < k → ∃ d, Gr es la d x) ∧ (w = k → ∃ j, 1 ≤ j ∧ j ≤ sn.length ∧ PP es la j x node)
  pr : ∀ x, x < k → x ∈ sn.map (·.1) ∨ lf la x = none
  st : k = node ∨ k ∈ sn.map (·.1)
structure AO (es : List Ed) (la : List (Option Nat)) (n k : Nat) (sn : List (Nat × Nat)) : Prop where
  nd : (sn.map (·.1)).Nodup
  it : ∀ x w, (x, w) ∈ sn → x < n ∧ w < k ∧ ∃ d, Gr es la d x
  pr : ∀ x, x < k → x ∈ sn.map (·.1) ∨ lf la x = none
section
variable {es : List Ed} {la : List (Option Nat)} {n k node : Nat} {sn : List (Nat × Nat)}
theorem AO.start : AO es la n 0 [] := ⟨List.nodup_nil, fun x w h => (by cases h), fun x h => absurd h (Nat.not_lt_zero _)⟩
theorem AO.into (h : AO es la n k sn) (hk : k < n) : AI es la n k sn k :=
  ⟨h.nd, hk, fun x w hx => let ⟨a, b, c⟩ := h.it x w hx; ⟨a, Nat.le_of_lt b, fun _ => c, fun z => absurd z (Nat.ne_of_lt b)⟩, h.pr, .inl rfl⟩
theorem AI.len (h : AI es la n k sn node) : sn.length ≤ n := by
  have := nodup_lt n _ h.nd fun x hx => by
    obtain ⟨e, he, rfl⟩ := List.mem_map.mp hx
    exact (h.it e.1 e.2 he).1
  rwa [List.length_map] at this
theorem AO.len (h : AO es la n k sn) : sn.length ≤ n := by
  have := nodup_lt n _ h.nd fun x hx => by
    obtain ⟨e, he, rfl⟩ := List.mem_map.mp hx
    exact (h.it e.1 e.2 he).1
  rwa [List.length_map] at this
theorem AI.step (w : Wf es n) (h : AI es la n k sn node) (hn : node ∉ sn.map (·.1)) {i u : Nat} {c : Int} (e : lf la node = some i) (e2 : es[i]? = some (u, node, c)) : AI es la n k (ins sn node k) u := by
  refine ⟨ins_nodup h.nd, (w.at e2).1, fun x v hx => ?_, fun x hx => ?_, ?_⟩
  · rw [ins_new hn] at hx ⊢
    rw [List.length_append, List.length_singleton]
    rcases List.mem_append.mp hx with z | z
    · obtain ⟨a, b, c1, c2⟩ := h.it x v z
      refine ⟨a, b, c1, fun q => ?_⟩
      obtain ⟨j, j1, j2, j3⟩ := c2 q
      exact ⟨j + 1, by omega, by omega, j3.snoc e e2⟩
    · cases List.mem_singleton.mp z
      exact ⟨h.lt, Nat.le_refl _, fun q => absurd q (Nat.lt_irrefl _), fun _ => ⟨1, Nat.le_refl _, by omega, i, u, c, e, e2, rfl⟩⟩
  · exact (h.pr x hx).imp (fun z => (ins_keys x).mpr (.inl z)) id
  · right
    rcases h.st with z | z
    · rw [z]; exact (ins_keys node).mpr (.inr rfl)
    · exact (ins_keys k).mpr (.inl z)
theorem AI.room (h : AI es la n k sn node) (hn : node ∉ sn.map (·.1)) : sn.length < n := by
  have := nodup_lt n ((ins sn node k).map (·.1)) (ins_nodup h.nd) fun x hx => by
    rcases (ins_keys x).mp hx with z | z
    · obtain ⟨e, he, rfl⟩ := List.mem_map.mp z
      exact (h.it e.1 e.2 he).1
    · rw [z]; exact h.lt
  rw [List.length_map, ins_new hn, List.length_append, List.length_singleton] at this
  omega
theorem AI.ring (h : AI es la n k sn node) (hg : gt sn node = some k) : ∃ j, 1 ≤ j ∧ j ≤ n ∧ PP es la j node node := by
  obtain ⟨_, _, _, c⟩ := h.it node k (gt_mem hg)
  obtain ⟨j, j1, j2, j3⟩ := c rfl
  exact ⟨j, j1, Nat.le_trans j2 h.len, j3⟩
theorem AI.out (h : AI es la n k sn node) (hend : node ∈ sn.map (·.1) ∨ lf la node = none) (hg : gt sn node ≠ some k) : AO es la n (k + 1) sn := by
  have G : ∃ d, Gr es la d node := by
    rcases hend with z | z
    · cases q : gt sn node with
      | none => exact absurd z (gt_none.mp q)
      | some w =>
        obtain ⟨_, a, b, _⟩ := h.it node w (gt_mem q)
        exact b (by
          have : w ≠ k := fun z => hg (by rw [q, z])
          omega)
    · exact ⟨0, z⟩
  obtain ⟨d, G⟩ := G
  refine ⟨h.nd, fun x w hx => ?_, fun x hx => ?_⟩
  · obtain ⟨a, b, c1, c2⟩ := h.it x w hx
    refine ⟨a, by omega, ?_⟩
    by_cases q : w < k
    · exact c1 q
    · obtain ⟨j, _, _, p⟩ := c2 (by omega)
      exact p.gr G
  · by_cases q : x < k
    · exact h.pr x q
    · have q : x = k := by omega
      subst q
      rcases h.st with z | z
      · rw [z]; exact hend
      · exact .inl z
theorem AO.done (h : AO es la n n sn) : ∀ v, v < n → ∃ d, Gr es la d v := fun v hv => by
  rcases h.pr v hv with z | z
  · obtain ⟨e, he, rfl⟩ := List.mem_map.mp z
    exact (h.it e.1 e.2 he).2.2
  · exact ⟨0, z⟩
end
end GK.N2

namespace GK.N2

/-! ### layers -/
abbrev Lay := List (Nat × (Int × Option Nat))
abbrev Lv := List (List (Nat × Nat × Int))
def candsAt (lv : Lv) (u : Nat) (b : Int) : List (Nat × Int × Nat) := (lv.getD u []).map fun q => (q.2.1, b + q.2.2, q.1)
def cands (lv : Lv) (l : Lay) : List (Nat × Int × Nat) := l.flatMap fun e => candsAt lv e.1 e.2.1
def better (acc : Lay) (h : Nat) (t : Int) : Bool := match gt acc h with
  | none => true
  | some b => decide (t < b.1)
def stepF (b : List Int) (acc : Lay) (q : Nat × Int × Nat) : Lay := if q.2.1 < b.getD q.1 0 ∧ better acc q.1 q.2.1 = true then ins acc q.1 (q.2.1, some q.2.2) else acc
def nextL (lv : Lv) (b : List Int) (l : Lay) : Lay := (cands lv l).foldl (stepF b) []
def updB (b : List Int) (l : Lay) : List Int := l.foldl (fun b e => b.set e.1 e.2.1) b
def lev (lv : Lv) (n s : Nat) : Nat → Lay × List Int
  | 0 => ([(s, (0, none))], List.replicate n 0)
  | k + 1 => (nextL lv (lev lv n s k).2 (lev lv n s k).1, updB (lev lv n s k).2 (nextL lv (lev lv n s k).2 (lev lv n s k).1))
structure StepOk (n : Nat) (b : List Int) (acc : Lay) : Prop where
  nd : (acc.map (·.1)).Nodup
  lt : ∀ x ∈ acc.map (·.1), x < n
section
variable {n : Nat} {b : List Int} {acc : Lay}
theorem stepF_ok {q : Nat × Int × Nat} (h : StepOk n b acc) (hq : q.1 < n) : StepOk n b (stepF b acc q) := by
  unfold stepF
  split
  · exact ⟨ins_nodup h.nd, fun x hx => (ins_keys x).mp hx |>.elim (h.lt x) fun z => by rw [z]; exact hq⟩
  · exact h
theorem stepF_old {q : Nat × Int × Nat} {v : Nat} {t : Int × Option Nat} (h : gt acc v = some t) : ∃ t', gt (stepF b acc q) v = some t' ∧ t'.1 ≤ t.1 := by
  unfold stepF
  split
  · rename_i c
    rw [gt_ins]
    by_cases e : v = q.1
    · rw [if_pos e]
      refine ⟨_, rfl, ?_⟩
      have := c.2
      unfold better at this
      rw [← e, h] at this
      have := of_decide_eq_true this
      show q.2.1 ≤ t.1
      omega
    · rw [if_neg e]; exact ⟨t, h, Int.le_refl _⟩
  · exact ⟨t, h, Int.le_refl _⟩
theorem stepF_new {q : Nat × Int × Nat} (h : q.2.1 < b.getD q.1 0) : ∃ t', gt (stepF b acc q) q.1 = some t' ∧ t'.1 ≤ q.2.1 := by
  unfold stepF
  by_cases c : better acc q.1 q.2.1 = true
  · rw [if_pos ⟨h, c⟩, gt_ins, if_pos rfl]
    exact ⟨_, rfl, Int.le_refl _⟩
  · rw [if_neg fun z => c z.2]
    unfold better at c
    cases e : gt acc q.1 with
    | none => rw [e] at c; exact absurd rfl c
    | some t =>
      rw [e] at c
      have : ¬ q.2.1 < t.1 := fun z => c (decide_eq_true z)
      exact ⟨t, rfl, by omega⟩
theorem stepF_from {q : Nat × Int × Nat} {v : Nat} {t : Int × Option Nat} (h : gt (stepF b acc q) v = some t) : gt acc v = some t ∨ (q.1 = v ∧ t = (q.2.1, some q.2.2) ∧ q.2.1 < b.getD v 0) := by
  unfold stepF at h
  split at h
  · rename_i c
    rw [gt_ins] at h
    split at h
    · rename_i e
      cases h
      exact .inr ⟨e.symm, rfl, by rw [e]; exact c.1⟩
    · exact .inl h
  · exact .inl h
theorem fold_ok : ∀ {C : List (Nat × Int × Nat)} {acc : Lay}, StepOk n b acc → (∀ q ∈ C, q.1 < n) → StepOk n b (C.foldl (stepF b) acc)
  | [], acc, h, _ => h
  | q :: C, acc, h, hq => fold_ok (C := C) (stepF_ok h (hq q List.mem_cons_self)) fun q hq' => hq q (List.mem_cons_of_mem _ hq')
theorem fold_old : ∀ {C : List (Nat × Int × Nat)} {acc : Lay} {v : Nat} {t : Int × Option Nat}, gt acc v = some t → ∃ t', gt (C.foldl (stepF b) acc) v = some t' ∧ t'.1 ≤ t.1
  | [], acc, v, t, h => ⟨t, h, Int.le_refl _⟩
  | q :: C, acc, v, t, h => by
    obtain ⟨t1, h1, l1⟩ := stepF_old (b := b) (q := q) h
    obtain ⟨t2, h2, l2⟩ := fold_old (C := C) h1
    exact ⟨t2, h2, by omega⟩
theorem fold_new : ∀ {C : List (Nat × Int × Nat)} {acc : Lay} {q : Nat × Int × Nat}, q ∈ C → q.2.1 < b.getD q.1 0 → ∃ t', gt (C.foldl (stepF b) acc) q.1 = some t' ∧ t'.1 ≤ q.2.1
  | [], _, _, h, _ => by cases h
  | p :: C, acc, q, h, hl => by
    rcases List.mem_cons.mp h with rfl | h
    · obtain ⟨t1, h1, l1⟩ := stepF_new (acc := acc) hl
      obtain ⟨t2, h2, l2⟩ := fold_old (b := b) (C := C) h1
      exact ⟨t2, h2, by omega⟩
    · exact fold_new (C := C) h hl
theorem fold_from : ∀ {C : List (Nat × Int × Nat)} {acc : Lay} {v : Nat} {t : Int × Option Nat}, gt (C.foldl (stepF b) acc) v = some t → gt acc v = some t ∨ ∃ q ∈ C, q.1 = v ∧ t = (q.2.1, some q.2.2) ∧ q.2.1 < b.getD v 0
  | [], acc, v, t, h => .inl h
  | p :: C, acc, v, t, h => by
    rcases fold_from (C := C) h with z | ⟨q, hq, r⟩
    · rcases stepF_from z with z | z
      · exact .inl z
      · exact .inr ⟨p, List.mem_cons_self, z⟩
    · exact .inr ⟨q, List.mem_cons_of_mem _ hq, r⟩
end
/-- the edges that leave each node -/
structure LvOk (gs : List Ed) (n : Nat) (lv : Lv) : Prop where
  len : lv.length = n
  it : ∀ v, v < n → ∀ i h c, (i, h, c) ∈ lv.getD v [] ↔ gs[i]? = some (v, h, c)
section
variable {gs : List Ed} {n s : Nat} {lv : Lv}
theorem cands_mem {l : Lay} (L : LvOk gs n lv) (nd : (l.map (·.1)).Nodup) (hl : ∀ x ∈ l.map (·.1), x < n) {v : Nat} {t : Int} {i : Nat} : (v, t, i) ∈ cands lv l ↔ ∃ u b o c, gt l u = some (b, o) ∧ gs[i]? = some (u, v, c) ∧ t = b + c := by
  unfold cands candsAt
  rw [List.mem_flatMap]
  constructor
  · rintro ⟨⟨u, b, o⟩, he, hm⟩
    obtain ⟨⟨i', h', c'⟩, hq, e⟩ := List.mem_map.mp hm
    cases e
    have hu : u < n := hl u (List.mem_map.mpr ⟨_, he, rfl⟩)
    exact ⟨u, b, o, c', gt_of_mem nd he, (L.it u hu _ _ _).mp hq, rfl⟩
  · rintro ⟨u, b, o, c, hg, he, rfl⟩
    have hm := gt_mem hg
    have hu : u < n := hl u (List.mem_map.mpr ⟨_, hm, rfl⟩)
    exact ⟨(u, b, o), hm, List.mem_map.mpr ⟨(i, v, c), (L.it u hu _ _ _).mpr he, rfl⟩⟩
theorem updB_len {b : List Int} : ∀ {l : Lay}, (updB b l).length = b.length := by
  intro l
  unfold updB
  induction l generalizing b with
  | nil => rfl
  | cons e l ih => rw [List.foldl_cons, ih, List.length_set]
theorem updB_at {l : Lay} : ∀ {b : List Int}, (l.map (·.1)).Nodup → (∀ x ∈ l.map (·.1), x < b.length) → ∀ v, (updB b l).getD v 0 = match gt l v with
    | some t => t.1
    | none => b.getD v 0 := by
  unfold updB
  induction l with
  | nil => intro b _ _ v; rfl
  | cons e l ih =>
    intro b nd hl v
    rw [List.map_cons, List.nodup_cons] at nd
    have he : e.1 < b.length := hl _ (by rw [List.map_cons]; exact List.mem_cons_self)
    rw [List.foldl_cons, ih nd.2 (fun x hx => by rw [List.length_set]; exact hl x (by rw [List.map_cons]; exact List.mem_cons_of_mem _ hx)) v, gt_cons]
    by_cases q : e.1 = v
    · rw [if_pos q]
      have : gt l v = none := gt_none.mpr (q ▸ nd.1)
      rw [this]
      show (b.set e.1 e.2.1).getD v 0 = e.2.1
      rw [getD_set he, if_pos q.symm]
    · rw [if_neg q]
      cases h : gt l v with
      | some t => rfl
      | none =>
        show (b.set e.1 e.2.1).getD v 0 = b.getD v 0
        rw [getD_set he, if_neg fun z => q z.symm]
/-- what stands in the layers -/
structure LevOk (gs : List Ed) (n s k : Nat) (l : Lay) (b : List Int) : Prop where
  nd : (l.map (·.1)).Nodup
  lt : ∀ x ∈ l.map (·.1), x < n
  bl : b.length = n
  b0 : ∀ v, b.getD v 0 ≤ 0
  bw : ∀ v, v < n → b.getD v 0 < 0 → ∃ js, 1 ≤ js.length ∧ js.length ≤ k ∧ Wk gs s js v ∧ sm gs js = b.getD v 0
  lw : ∀ v t o, gt l v = some (t, o) → ∃ js, js.length = k ∧ Wk gs s js v ∧ sm gs js = t
  neg : 1 ≤ k → ∀ v t o, gt l v = some (t, o) → t < 0
theorem lev_ok (w : Wf gs n) (L : LvOk gs n lv) (hs : s < n) : ∀ k, LevOk gs n s k (lev lv n s k).1 (lev lv n s k).2
  | 0 => by
    have z : ∀ v, (List.replicate n (0 : Int)).getD v 0 = 0 := fun v => by
      rw [List.getD_eq_getElem?_getD, List.getElem?_replicate]; split <;> rfl
    refine ⟨by simp [lev], fun x hx => ?_, List.length_replicate .., fun v => by rw [show (lev lv n s 0).2 = List.replicate n 0 from rfl, z]; exact Int.le_refl _, fun v _ h => ?_, fun v t o h => ?_, fun h => absurd h (by omega)⟩
    · have hx : x = s := by simpa [lev] using hx
      rw [hx]; exact hs
    · rw [show (lev lv n s 0).2 = List.replicate n 0 from rfl, z] at h
      exact absurd h (Int.lt_irrefl _)
    · rw [show (lev lv n s 0).1 = [(s, (0, none))] from rfl, gt_cons] at h
      split at h
      · rename_i e
        cases h
        exact ⟨[], rfl, e, rfl⟩
      · cases h
  | k + 1 => by
    have I := lev_ok w L hs k
    show LevOk gs n s (k + 1) (nextL lv (lev lv n s k).2 (lev lv n s k).1) (updB (lev lv n s k).2 (nextL lv (lev lv n s k).2 (lev lv n s k).1))
    revert I
    generalize (lev lv n s k).1 = l
    generalize (lev lv n s k).2 = b
    intro I
    have ok : StepOk n b (nextL lv b l) := fold_ok (acc := []) ⟨List.nodup_nil, fun x h => by cases h⟩ fun q hq => by
      obtain ⟨u, b', o, c, _, e, _⟩ := (cands_mem L I.nd I.lt (v := q.1) (t := q.2.1) (i := q.2.2)).mp hq
      exact (w.at e).2
    have fr : ∀ v t o, gt (nextL lv b l) v = some (t, o) → ∃ u b' o' i c, gt l u = some (b', o') ∧ gs[i]? = some (u, v, c) ∧ t = b' + c ∧ t < b.getD v 0 ∧ o = some i := fun v t o h => by
      rcases fold_from h with z | ⟨q, hq, e1, e2, e3⟩
      · rw [gt_nil] at z; cases z
      · obtain ⟨u, b', o', c, h1, h2, h3⟩ := (cands_mem L I.nd I.lt (v := q.1) (t := q.2.1) (i := q.2.2)).mp hq
        cases e2
        rw [e1] at h2
        exact ⟨u, b', o', q.2.2, c, h1, h2, h3, e3, rfl⟩
    have lw : ∀ v t o, gt (nextL lv b l) v = some (t, o) → ∃ js, js.length = k + 1 ∧ Wk gs s js v ∧ sm gs js = t := fun v t o h => by
      obtain ⟨u, b', o', i, c, h1, h2, h3, h4, _⟩ := fr v t o h
      obtain ⟨js, j1, j2, j3⟩ := I.lw u b' o' h1
      refine ⟨js ++ [i], by rw [List.length_append, j1]; rfl, wk_append.mpr ⟨u, j2, v, c, h2, rfl⟩, ?_⟩
      rw [sm_append, sm_one, cst_at h2, j3, h3]
    have ng : ∀ v t o, gt (nextL lv b l) v = some (t, o) → t < 0 := fun v t o h => by
      obtain ⟨u, b', o', i, c, h1, h2, h3, h4, _⟩ := fr v t o h
      have := I.b0 v
      omega
    have ub : ∀ v, (updB b (nextL lv b l)).getD v 0 = match gt (nextL lv b l) v with
      | some t => t.1
      | none => b.getD v 0 := updB_at ok.nd fun x hx => by rw [I.bl]; exact ok.lt x hx
    refine ⟨ok.nd, ok.lt, by rw [updB_len]; exact I.bl, fun v => ?_, fun v hv h => ?_, lw, fun _ => ng⟩
    · rw [ub v]
      cases q : gt (nextL lv b l) v with
      | none => exact I.b0 v
      | some t => exact Int.le_of_lt (ng v t.1 t.2 q)
    · rw [ub v] at h ⊢
      cases q : gt (nextL lv b l) v with
      | none =>
        rw [q] at h
        obtain ⟨js, j1, j2, j3, j4⟩ := I.bw v hv h
        exact ⟨js, j1, by omega, j3, j4⟩
      | some t =>
        obtain ⟨js, j1, j2, j3⟩ := lw v t.1 t.2 q
        exact ⟨js, by omega, by omega, j2, j3⟩
theorem lev_from (w : Wf gs n) (L : LvOk gs n lv) (hs : s < n) {k v : Nat} {t : Int} {o : Option Nat} (h : gt (lev lv n s (k + 1)).1 v = some (t, o)) : ∃ u b' o' i c, gt (lev lv n s k).1 u = some (b', o') ∧ gs[i]? = some (u, v, c) ∧ t = b' + c ∧ o = some i := by
  have I := lev_ok w L hs k
  rcases fold_from h with z | ⟨q, hq, e1, e2, e3⟩
  · rw [gt_nil] at z; cases z
  · obtain ⟨u, b', o', c, h1, h2, h3⟩ := (cands_mem L I.nd I.lt (v := q.1) (t := q.2.1) (i := q.2.2)).mp hq
    cases e2
    rw [e1] at h2
    exact ⟨u, b', o', q.2.2, c, h1, h2, h3, rfl⟩
/-- the fewest are found -/
theorem lev_full (w : Wf gs n) (L : LvOk gs n lv) (hs : s < n) {is : List Nat} (hw : Wk gs s is s) (hsm : sm gs is < 0) (hp : ∀ p q, is = p ++ q → p ≠ [] → sm gs p < 0) (hm : ∀ k, k < is.length → ¬ CN gs k) :
    ∀ (k : Nat) (a r : List Nat), a.length = k → is = a ++ r → ∀ v, Wk gs s a v → ∃ t o, gt (lev lv n s k).1 v = some (t, o) ∧ t ≤ sm gs a
  | 0, a, r, ha, e, v, wa => by
    have ha := List.length_eq_zero_iff.mp ha
    subst ha
    have wa : s = v := wa
    subst wa
    exact ⟨0, none, by rw [show (lev lv n s 0).1 = [(s, (0, none))] from rfl, gt_cons, if_pos rfl], Int.le_refl _⟩
  | k + 1, a, r, ha, e, v, wa => by
    obtain ⟨a', i, rfl⟩ : ∃ a' i, a = a' ++ [i] := by
      have h0 : a ≠ [] := fun z => by rw [z] at ha; cases ha
      exact ⟨a.dropLast, a.getLast h0, (List.dropLast_concat_getLast h0).symm⟩
    rw [List.length_append, List.length_singleton] at ha
    obtain ⟨u, w1, m, c, e1, w2⟩ := wk_append.mp wa
    have w2 : m = v := w2
    subst w2
    obtain ⟨t, o, h1, h2⟩ := lev_full w L hs hw hsm hp hm k a' ([i] ++ r) (by omega) (by rw [e, List.append_assoc]) u w1
    have I := lev_ok w L hs k
    have hv := (w.at e1).2
    have sa : sm gs (a' ++ [i]) = sm gs a' + c := by rw [sm_append, sm_one, cst_at e1]
    have na : sm gs (a' ++ [i]) < 0 := hp _ r e (by simp)
    have good : t + c < (lev lv n s k).2.getD m 0 := by
      apply Decidable.byContradiction
      intro hb
      obtain ⟨js, j1, j2, j3, j4⟩ := I.bw m hv (by omega)
      have wr : Wk gs m r s := by
        rw [e] at hw
        obtain ⟨m', x1, x2⟩ := wk_append.mp hw
        rw [wk_end x1 wa] at x2
        exact x2
      have se : sm gs is = sm gs (a' ++ [i]) + sm gs r := by rw [e, sm_append]
      have le : is.length = k + 1 + r.length := by rw [e, List.length_append, List.length_append, List.length_singleton]; omega
      refine hm (js ++ r).length (by rw [List.length_append]; omega) ⟨s, js ++ r, rfl, fun z => ?_, wk_append.mpr ⟨m, j3, wr⟩, by rw [sm_append]; omega⟩
      have := congrArg List.length z
      rw [List.length_append, List.length_nil] at this
      omega
    obtain ⟨t', h3, h4⟩ := fold_new (b := (lev lv n s k).2) (C := cands lv (lev lv n s k).1) (acc := []) (q := (m, t + c, i)) ((cands_mem L I.nd I.lt).mpr ⟨u, t, o, c, h1, e1, rfl⟩) good
    exact ⟨t'.1, t'.2, h3, by
      have h4 : t'.1 ≤ t + c := h4
      omega⟩
/-- found at k: a falling closed walk of k edges -/
theorem lev_cn (w : Wf gs n) (L : LvOk gs n lv) (hs : s < n) {k : Nat} (hk : 1 ≤ k) (h : s ∈ (lev lv n s k).1.map (·.1)) : CN gs k := by
  have I := lev_ok w L hs k
  cases q : gt (lev lv n s k).1 s with
  | none => exact absurd h (gt_none.mp q)
  | some t =>
    obtain ⟨js, j1, j2, j3⟩ := I.lw s t.1 t.2 q
    have := I.neg hk s t.1 t.2 q
    exact ⟨s, js, j1, fun z => by rw [z] at j1; simp at j1; omega, j2, by omega⟩
/-- nothing found up to k: no falling closed walk of at most k edges -/
theorem lev_no (w : Wf gs n) (L : LvOk gs n lv) : ∀ k, (∀ j, 1 ≤ j → j ≤ k → ∀ s, s < n → s ∉ (lev lv n s j).1.map (·.1)) → ∀ j, j ≤ k → ¬ CN gs j := by
  intro k h j hj c
  obtain ⟨m, hm, ⟨s, is, h1, h2, h3, h4⟩, hmin⟩ := cn_min j c
  obtain ⟨r, js, e1, e2, e3, e4⟩ := turn_neg h3 h4
  have hlen : js.length = m := by omega
  have js0 : js ≠ [] := fun z => by
    rw [z] at e1
    exact h2 (List.length_eq_zero_iff.mp e1.symm)
  have hr : r < n := by
    cases js with
    | nil => exact absurd rfl js0
    | cons i js =>
      obtain ⟨x, c, e, _⟩ := e2
      exact (w.at e).1
  obtain ⟨t, o, g1, g2⟩ := lev_full w L hr e2 (by omega) e4 (by rw [hlen]; exact hmin) m js [] hlen (List.append_nil js).symm r e2
  have m1 : 1 ≤ m := by
    cases js with
    | nil => exact absurd rfl js0
    | cons i js => rw [List.length_cons] at hlen; omega
  exact h m m1 (by omega) r hr (by rw [show ∀ l : List Nat, (r ∈ l) = ¬ ¬ r ∈ l from fun l => propext ⟨fun a b => b a, fun a => Decidable.byContradiction a⟩]; exact fun z => by rw [gt_none.mpr z] at g1; cases g1)
end
end GK.N2

namespace GK.N2

/-! ### the law's own rows -/
def betterI (acc : List (Nat × Int)) (h : Nat) (t : Int) : Bool := match gt acc h with
  | none => true
  | some b => decide (t < b)
def lstep (row acc : List (Nat × Int)) (e : Ed) : List (Nat × Int) := match gt row e.1 with
  | none => acc
  | some b => if betterI acc e.2.1 (b + e.2.2) = true then ins acc e.2.1 (b + e.2.2) else acc
def lrow (es : List Ed) (row : List (Nat × Int)) : List (Nat × Int) := es.foldl (lstep row) []
def lr (es : List Ed) (s : Nat) : Nat → List (Nat × Int)
  | 0 => [(s, 0)]
  | k + 1 => lrow es (lr es s k)
section
variable {row acc : List (Nat × Int)} {e : Ed} {v : Nat} {t : Int}
theorem lold (h : gt acc v = some t) : ∃ t', gt (lstep row acc e) v = some t' ∧ t' ≤ t := by
  unfold lstep
  split
  · exact ⟨t, h, Int.le_refl _⟩
  · rename_i b hb
    split
    · rename_i c
      rw [gt_ins]
      by_cases q : v = e.2.1
      · rw [if_pos q]
        refine ⟨_, rfl, ?_⟩
        unfold betterI at c
        rw [← q, h] at c
        have := of_decide_eq_true c
        omega
      · rw [if_neg q]; exact ⟨t, h, Int.le_refl _⟩
    · exact ⟨t, h, Int.le_refl _⟩
theorem lnew {b : Int} (h : gt row e.1 = some b) : ∃ t', gt (lstep row acc e) e.2.1 = some t' ∧ t' ≤ b + e.2.2 := by
  unfold lstep
  rw [h]
  show ∃ t', gt (if betterI acc e.2.1 (b + e.2.2) = true then ins acc e.2.1 (b + e.2.2) else acc) e.2.1 = some t' ∧ t' ≤ b + e.2.2
  split
  · rw [gt_ins, if_pos rfl]; exact ⟨_, rfl, Int.le_refl _⟩
  · rename_i c
    unfold betterI at c
    cases q : gt acc e.2.1 with
    | none => rw [q] at c; exact absurd rfl c
    | some t =>
      rw [q] at c
      have : ¬ b + e.2.2 < t := fun z => c (decide_eq_true z)
      exact ⟨t, rfl, by omega⟩
theorem lfrom (h : gt (lstep row acc e) v = some t) : gt acc v = some t ∨ ∃ b, e.2.1 = v ∧ gt row e.1 = some b ∧ t = b + e.2.2 := by
  unfold lstep at h
  split at h
  · exact .inl h
  · rename_i b hb
    split at h
    · rw [gt_ins] at h
      split at h
      · rename_i q
        cases h
        exact .inr ⟨b, q.symm, hb, rfl⟩
      · exact .inl h
    · exact .inl h
theorem lkeys (nd : (acc.map (·.1)).Nodup) : ((lstep row acc e).map (·.1)).Nodup ∧ (lstep row acc e).length ≤ acc.length + 1 ∧ ∀ x ∈ (lstep row acc e).map (·.1), x ∈ acc.map (·.1) ∨ x = e.2.1 := by
  unfold lstep
  split
  · exact ⟨nd, by omega, fun x hx => .inl hx⟩
  · split
    · exact ⟨ins_nodup nd, ins_len, fun x hx => (ins_keys x).mp hx⟩
    · exact ⟨nd, by omega, fun x hx => .inl hx⟩
end
section
variable {row : List (Nat × Int)}
theorem lfold_old : ∀ {es : List Ed} {acc : List (Nat × Int)} {v : Nat} {t : Int}, gt acc v = some t → ∃ t', gt (es.foldl (lstep row) acc) v = some t' ∧ t' ≤ t
  | [], acc, v, t, h => ⟨t, h, Int.le_refl _⟩
  | e :: es, acc, v, t, h => by
    obtain ⟨t1, h1, l1⟩ := lold (row := row) (e := e) h
    obtain ⟨t2, h2, l2⟩ := lfold_old (es := es) h1
    exact ⟨t2, h2, by omega⟩
theorem lfold_new : ∀ {es : List Ed} {acc : List (Nat × Int)} {e : Ed} {b : Int}, e ∈ es → gt row e.1 = some b → ∃ t', gt (es.foldl (lstep row) acc) e.2.1 = some t' ∧ t' ≤ b + e.2.2
  | [], _, _, _, h, _ => by cases h
  | p :: es, acc, e, b, h, hb => by
    rcases List.mem_cons.mp h with rfl | h
    · obtain ⟨t1, h1, l1⟩ := lnew (acc := acc) hb
      obtain ⟨t2, h2, l2⟩ := lfold_old (row := row) (es := es) h1
      exact ⟨t2, h2, by omega⟩
    · exact lfold_new (es := es) h hb
theorem lfold_from : ∀ {es : List Ed} {acc : List (Nat × Int)} {v : Nat} {t : Int}, gt (es.foldl (lstep row) acc) v = some t → gt acc v = some t ∨ ∃ e ∈ es, ∃ b, e.2.1 = v ∧ gt row e.1 = some b ∧ t = b + e.2.2
  | [], acc, v, t, h => .inl h
  | p :: es, acc, v, t, h => by
    rcases lfold_from (es := es) h with z | ⟨e, he, r⟩
    · rcases lfrom z with z | z
      · exact .inl z
      · exact .inr ⟨p, List.mem_cons_self, z⟩
    · exact .inr ⟨e, List.mem_cons_of_mem _ he, r⟩
theorem lfold_keys : ∀ {es : List Ed} {acc : List (Nat × Int)}, (acc.map (·.1)).Nodup → ((es.foldl (lstep row) acc).map (·.1)).Nodup ∧ (es.foldl (lstep row) acc).length ≤ acc.length + es.length
  | [], acc, h => ⟨h, by simp⟩
  | p :: es, acc, h => by
    obtain ⟨a, b, _⟩ := lkeys (row := row) (e := p) h
    obtain ⟨c, d⟩ := lfold_keys (es := es) a
    exact ⟨c, by rw [List.length_cons]; show (es.foldl (lstep row) (lstep row acc p)).length ≤ _; omega⟩
end
structure RowOk (es : List Ed) (s k : Nat) (row : List (Nat × Int)) : Prop where
  lw : ∀ v t, gt row v = some t → ∃ js, js.length = k ∧ Wk es s js v ∧ sm es js = t
  up : ∀ js v, js.length = k → Wk es s js v → ∃ t, gt row v = some t ∧ t ≤ sm es js
theorem lr_ok {es : List Ed} {s : Nat} : ∀ k, RowOk es s k (lr es s k)
  | 0 => by
    refine ⟨fun v t h => ?_, fun js v h w => ?_⟩
    · rw [show lr es s 0 = [(s, 0)] from rfl, gt_cons] at h
      split at h
      · rename_i e
        cases h
        exact ⟨[], rfl, e, rfl⟩
      · cases h
    · have h := List.length_eq_zero_iff.mp h
      subst h
      have w : s = v := w
      subst w
      exact ⟨0, by rw [show lr es s 0 = [(s, 0)] from rfl, gt_cons, if_pos rfl], Int.le_refl _⟩
  | k + 1 => by
    have I := lr_ok (es := es) (s := s) k
    refine ⟨fun v t h => ?_, fun js v h w => ?_⟩
    · rcases lfold_from (show gt (es.foldl (lstep (lr es s k)) []) v = some t from h) with z | ⟨⟨u, v', c⟩, he, b, rfl, hb, rfl⟩
      · rw [gt_nil] at z; cases z
      · obtain ⟨js, j1, j2, j3⟩ := I.lw u b hb
        obtain ⟨i, hi⟩ := List.mem_iff_getElem?.mp he
        exact ⟨js ++ [i], by rw [List.length_append, j1]; rfl, wk_append.mpr ⟨u, j2, v', c, hi, rfl⟩, by rw [sm_append, sm_one, cst_at hi, j3]⟩
    · have h0 : js ≠ [] := fun z => by rw [z] at h; cases h
      obtain ⟨a, i, rfl⟩ : ∃ a i, js = a ++ [i] := ⟨js.dropLast, js.getLast h0, (List.dropLast_concat_getLast h0).symm⟩
      rw [List.length_append, List.length_singleton] at h
      obtain ⟨u, w1, m, c, e, w2⟩ := wk_append.mp w
      have w2 : m = v := w2
      subst w2
      obtain ⟨t, g, l⟩ := I.up a u (by omega) w1
      obtain ⟨t', g', l'⟩ := lfold_new (row := lr es s k) (acc := []) (List.mem_of_getElem? e) g
      refine ⟨t', g', ?_⟩
      rw [sm_append, sm_one, cst_at e]
      have l' : t' ≤ t + c := l'
      omega
/-- every falling closed walk passes a start -/
def Hit (es : List Ed) (n : Nat) (st : List Nat) : Prop := (∀ v, v < n → v ∈ st) ∨ ∃ (p : Nat → Int) (h : Nat), h ∈ st ∧ ∀ (i u v : Nat) (c : Int), es[i]? = some (u, v, c) → v ≠ h → p v ≤ p u + c
theorem hit_walk {es : List Ed} {p : Nat → Int} {h : Nat} (hp : ∀ (i u v : Nat) (c : Int), es[i]? = some (u, v, c) → v ≠ h → p v ≤ p u + c) : ∀ {is : List Nat} {s v : Nat}, Wk es s is v → (∃ a b, is = a ++ b ∧ a ≠ [] ∧ Wk es s a h ∧ Wk es h b v) ∨ p v - p s ≤ sm es is
  | [], s, v, w => .inr (by
    have w : s = v := w
    subst w
    show p s - p s ≤ (0 : Int)
    omega)
  | i :: is, s, v, ⟨m, c, e, w⟩ => by
    by_cases q : m = h
    · subst q
      exact .inl ⟨[i], is, rfl, by simp, ⟨m, c, e, rfl⟩, w⟩
    · rcases hit_walk hp w with ⟨a, b, e1, e2, e3, e4⟩ | z
      · exact .inl ⟨i :: a, b, by rw [e1]; rfl, by simp, ⟨m, c, e, e3⟩, e4⟩
      · have := hp i s m c e q
        exact .inr (by
          show p v - p s ≤ cst es i + sm es is
          rw [cst_at e]; omega)
theorem Hit.start {es : List Ed} {n k : Nat} {st : List Nat} (w : Wf es n) (H : Hit es n st) (c : CN es k) : ∃ s js, s ∈ st ∧ js.length = k ∧ Wk es s js s ∧ sm es js < 0 := by
  obtain ⟨s, is, h1, h2, h3, h4⟩ := c
  rcases H with H | ⟨p, h, hm, hp⟩
  · refine ⟨s, is, H s ?_, h1, h3, h4⟩
    cases is with
    | nil => exact absurd rfl h2
    | cons i is =>
      obtain ⟨m, c, e, _⟩ := h3
      exact (w.at e).1
  · rcases hit_walk hp h3 with ⟨a, b, e1, e2, e3, e4⟩ | z
    · refine ⟨h, b ++ a, hm, by rw [← h1, e1, List.length_append, List.length_append, Nat.add_comm], wk_append.mpr ⟨s, e4, e3⟩, ?_⟩
      rw [e1, sm_append] at h4
      rw [sm_append]
      omega
    · omega
def FewOk (es : List Ed) (f : Nat) : Prop := (f = 0 ∧ ∀ k, ¬ CN es k) ∨ (0 < f ∧ CN es f ∧ ∀ k, k < f → ¬ CN es k)
theorem few_found {es : List Ed} {n f : Nat} {st : List Nat} (w : Wf es n) (H : Hit es n st) {s : Nat} {t : Int} (hf : 0 < f) (hg : gt (lr es s f) s = some t) (ht : t < 0) (hm : ∀ j, 1 ≤ j → j < f → ∀ s ∈ st, ∀ t, gt (lr es s j) s = some t → 0 ≤ t) : FewOk es f := by
  refine .inr ⟨hf, ?_, fun k hk c => ?_⟩
  · obtain ⟨js, j1, j2, j3⟩ := (lr_ok (es := es) (s := s) f).lw s t hg
    exact ⟨s, js, j1, fun z => by rw [z] at j1; simp at j1; omega, j2, by omega⟩
  · obtain ⟨m, hmk, cm, _⟩ := cn_min k c
    obtain ⟨s', js, h1, h2, h3, h4⟩ := H.start w cm
    obtain ⟨t', g, l⟩ := (lr_ok (es := es) (s := s') m).up js s' h2 h3
    have m0 : 1 ≤ m := by
      obtain ⟨_, is, e1, e2, _⟩ := cm
      cases is with
      | nil => exact absurd rfl e2
      | cons i is => rw [List.length_cons] at e1; omega
    have := hm m m0 (by omega) s' h1 t' g
    omega
theorem cn_le {es : List Ed} {n k : Nat} (w : Wf es n) (c : CN es k) (hm : ∀ j, j < k → ¬ CN es j) : k ≤ n := by
  obtain ⟨s, is, e1, e2, e3, e4⟩ := c
  have := Least.le w (s := s) (is := is) ⟨e2, e3, e4, by rw [e1]; exact hm⟩
  omega
theorem few_none {es : List Ed} {n : Nat} {st : List Nat} (w : Wf es n) (H : Hit es n st) (hm : ∀ j, 1 ≤ j → j ≤ n → ∀ s ∈ st, ∀ t, gt (lr es s j) s = some t → 0 ≤ t) : FewOk es 0 := by
  refine .inl ⟨rfl, fun k c => ?_⟩
  obtain ⟨m, hmk, cm, hmin⟩ := cn_min k c
  have hn := cn_le w cm hmin
  obtain ⟨s', js, h1, h2, h3, h4⟩ := H.start w cm
  obtain ⟨t', g, l⟩ := (lr_ok (es := es) (s := s') m).up js s' h2 h3
  have m0 : 1 ≤ m := by
    obtain ⟨_, is, e1, e2, _⟩ := cm
    cases is with
    | nil => exact absurd rfl e2
    | cons i is => rw [List.length_cons] at e1; omega
  have := hm m m0 hn s' h1 t' g
  omega
theorem FewOk.least {es : List Ed} {f s : Nat} {is : List Nat} (F : FewOk es f) (h : Least es s is) : is.length = f := by
  rcases F with ⟨rfl, h0⟩ | ⟨h0, h1, h2⟩
  · exact absurd h.cn (h0 _)
  · apply Decidable.byContradiction
    intro q
    by_cases c : is.length < f
    · exact h2 _ c h.cn
    · exact h.2.2.2 f (by omega) h1
end GK.N2

namespace GK.N2

/-! ### the steps of the program's tables -/
structure LvK (gs : List Ed) (n i : Nat) (lv : Lv) : Prop where
  len : lv.length = n
  it : ∀ v, v < n → ∀ j h c, (j, h, c) ∈ lv.getD v [] ↔ j < i ∧ gs[j]? = some (v, h, c)
  le : ∀ v, v < n → (lv.getD v []).length ≤ i
theorem LvK.start (gs : List Ed) (n : Nat) : LvK gs n 0 (List.replicate n []) := by
  have z : ∀ v, (List.replicate n ([] : List (Nat × Nat × Int))).getD v [] = [] := fun v => by
    rw [List.getD_eq_getElem?_getD, List.getElem?_replicate]; split <;> rfl
  refine ⟨List.length_replicate .., fun v hv j h c => ?_, fun v hv => ?_⟩
  · rw [z]; simp
  · rw [z]; exact Nat.le_refl _
theorem LvK.step {gs : List Ed} {n i u v : Nat} {c : Int} {lv : Lv} (L : LvK gs n i lv) (e : gs[i]? = some (u, v, c)) (hu : u < n) : LvK gs n (i + 1) (lv.set u (lv.getD u [] ++ [(i, v, c)])) := by
  have g : ∀ w, (lv.set u (lv.getD u [] ++ [(i, v, c)])).getD w [] = if w = u then lv.getD u [] ++ [(i, v, c)] else lv.getD w [] := fun w => getD_set (by rw [L.len]; exact hu)
  refine ⟨by rw [List.length_set]; exact L.len, fun w hw j h d => ?_, fun w hw => ?_⟩
  · rw [g]
    by_cases q : w = u
    · subst q
      rw [if_pos rfl, List.mem_append, List.mem_singleton, L.it w hw]
      constructor
      · rintro (⟨a, b⟩ | z)
        · exact ⟨by omega, b⟩
        · cases z
          exact ⟨Nat.lt_succ_self _, e⟩
      · rintro ⟨a, b⟩
        by_cases r : j = i
        · subst r
          rw [e] at b
          cases b
          exact .inr rfl
        · exact .inl ⟨by omega, b⟩
    · rw [if_neg q, L.it w hw]
      constructor
      · rintro ⟨a, b⟩; exact ⟨by omega, b⟩
      · rintro ⟨a, b⟩
        refine ⟨?_, b⟩
        by_cases r : j = i
        · subst r
          rw [e] at b
          cases b
          exact absurd rfl q
        · omega
  · rw [g]
    split
    · rw [List.length_append, List.length_singleton]
      have := L.le u hu
      omega
    · have := L.le w hw
      omega
theorem LvK.done {gs : List Ed} {n : Nat} {lv : Lv} (L : LvK gs n gs.length lv) : LvOk gs n lv :=
  ⟨L.len, fun v hv i h c => by rw [L.it v hv]; exact ⟨fun z => z.2, fun z => ⟨(List.getElem?_eq_some_iff.mp z).1, z⟩⟩⟩
section
variable {b : List Int} {acc : Lay} {h i : Nat} {t : Int}
theorem stepF_a (h1 : t < pf b h) (h2 : gt acc h = none) : stepF b acc (h, t, i) = ins acc h (t, some i) := by
  unfold stepF better
  rw [if_pos ⟨h1, by rw [h2]⟩]
theorem stepF_b {x : Int × Option Nat} (h1 : t < pf b h) (h2 : gt acc h = some x) (h3 : t < x.1) : stepF b acc (h, t, i) = ins acc h (t, some i) := by
  unfold stepF better
  rw [if_pos ⟨h1, by rw [h2]; exact decide_eq_true h3⟩]
theorem stepF_c (h1 : ¬ t < pf b h) : stepF b acc (h, t, i) = acc := by
  unfold stepF
  rw [if_neg fun z => h1 z.1]
theorem stepF_d {x : Int × Option Nat} (h2 : gt acc h = some x) (h3 : ¬ t < x.1) : stepF b acc (h, t, i) = acc := by
  unfold stepF better
  rw [if_neg fun z => by
    have := z.2
    rw [h2] at this
    exact h3 (of_decide_eq_true this)]
end
theorem StepOk.len {n : Nat} {b : List Int} {acc : Lay} (h : StepOk n b acc) : acc.length ≤ n := by
  have := nodup_lt n _ h.nd h.lt
  rwa [List.length_map] at this
theorem red_len {p : Nat → Int} {es : List Ed} : (red p es).length = es.length := by unfold red; rw [List.length_map]
theorem red_wf {p : Nat → Int} {es : List Ed} {n : Nat} (w : Wf es n) : Wf (red p es) n := fun e he => by
  unfold red at he
  obtain ⟨x, hx, rfl⟩ := List.mem_map.mp he
  exact w x hx
theorem red_at {p : Nat → Int} {es : List Ed} {i u v : Nat} {c : Int} (h : es[i]? = some (u, v, c)) : (red p es)[i]? = some (u, v, c + p u - p v) := red_get.mpr (by rw [h, show c + p u - p v - p u + p v = c by omega])
theorem LvOk.lt {gs : List Ed} {n v : Nat} {lv : Lv} (w : Wf gs n) (L : LvOk gs n lv) (hv : v < n) {q : Nat × Nat × Int} (h : q ∈ lv.getD v []) : q.2.1 < n := (w.at ((L.it v hv q.1 q.2.1 q.2.2).mp h)).2
end GK.N2
namespace GK.N2
def hd (es : List Ed) (i : Nat) : Nat := match es[i]? with
  | some (_, v, _) => v
  | none => 0
theorem hd_at {es : List Ed} {i u v : Nat} {c : Int} (h : es[i]? = some (u, v, c)) : hd es i = v := by unfold hd; rw [h]
theorem wk_heads {es : List Ed} : ∀ {is : List Nat} {s v : Nat}, Wk es s is v → ∀ k, k < is.length → (is.map (hd es))[k]? = some (if k + 1 < is.length then ((is.map (tl es))[k + 1]?).getD 0 else v)
  | [], _, _, _, k, hk => absurd hk (Nat.not_lt_zero _)
  | [i], s, v, ⟨m, c, e, w⟩, k, hk => by
    have w : m = v := w
    subst w
    have : k = 0 := by
      rw [List.length_singleton] at hk
      omega
    subst this
    show some (hd es i) = some m
    rw [hd_at e]
  | i :: j :: is, s, v, ⟨m, c, e, w⟩, k, hk => by
    cases k with
    | zero =>
      show some (hd es i) = some (if 0 + 1 < (i :: j :: is).length then ((tl es j :: is.map (tl es))[0]?).getD 0 else v)
      rw [if_pos (by rw [List.length_cons, List.length_cons]; omega), hd_at e]
      show some m = some (tl es j)
      rw [wk_tl w]
    | succ k =>
      have ih := wk_heads w k (by simp only [List.length_cons] at hk ⊢; omega)
      show ((j :: is).map (hd es))[k]? = _
      rw [ih]
      congr 1
      by_cases q : k + 1 < (j :: is).length
      · rw [if_pos q, if_pos (by simp only [List.length_cons] at q ⊢; omega)]; rfl
      · rw [if_neg q, if_neg (by simp only [List.length_cons] at q ⊢; omega)]
end GK.N2
namespace GK.N2
theorem sum_cst {es : List Ed} : ∀ (is : List Nat), (is.map (cst es)).sum = sm es is
  | [] => rfl
  | i :: is => by rw [List.map_cons, List.sum_cons, sum_cst is]; rfl
end GK.N2

namespace GK.N2

/-! ### standing prices -/
structure Att (es : List Ed) (n : Nat) (ps : List Int) : Prop where
  lp : ps.length = n
  wk : ∀ v, v < n → ∃ s is, Wk es s is v ∧ sm es is = pf ps v
  le : ∀ v, pf ps v ≤ 0
theorem pf_rep (n v : Nat) : pf (List.replicate n 0) v = 0 := by
  unfold pf
  rw [List.getD_eq_getElem?_getD, List.getElem?_replicate]
  split <;> rfl
theorem Att.start (es : List Ed) (n : Nat) : Att es n (List.replicate n 0) :=
  ⟨List.length_replicate .., fun v hv => ⟨v, [], rfl, by rw [pf_rep]; rfl⟩, fun v => by rw [pf_rep]; exact Int.le_refl _⟩
theorem Att.relax {es : List Ed} {n j u v : Nat} {c : Int} {ps : List Int} (A : Att es n ps) (e : es[j]? = some (u, v, c)) (hu : u < n) (hv : v < n) (h : pf ps u + c < pf ps v) : Att es n (ps.set v (pf ps u + c)) := by
  have hp : ∀ w, pf (ps.set v (pf ps u + c)) w = if w = v then pf ps u + c else pf ps w := fun w => getD_set (by rw [A.lp]; exact hv)
  refine ⟨by rw [List.length_set]; exact A.lp, fun w hw => ?_, fun w => ?_⟩
  · rw [hp]
    split
    · rename_i q
      obtain ⟨s, is, h1, h2⟩ := A.wk u hu
      exact ⟨s, is ++ [j], wk_append.mpr ⟨u, h1, v, c, e, q.symm⟩, by rw [sm_append, sm_one, cst_at e, h2]⟩
    · exact A.wk w hw
  · rw [hp]
    have := A.le v
    have := A.le w
    split <;> omega
structure Stand (es : List Ed) (n : Nat) (ps : List Int) : Prop where
  at_ : Att es n ps
  fe : ∀ (i u v : Nat) (c : Int), es[i]? = some (u, v, c) → pf ps v ≤ pf ps u + c
theorem Stand.no {es : List Ed} {n : Nat} {ps : List Int} (S : Stand es n ps) (k : Nat) : ¬ CN es k := feas_no S.fe k
theorem fe_walk {es : List Ed} {p : Nat → Int} (h : ∀ (i u v : Nat) (c : Int), es[i]? = some (u, v, c) → p v ≤ p u + c) : ∀ {is : List Nat} {s v : Nat}, Wk es s is v → p v ≤ p s + sm es is
  | [], s, v, w => by
    have w : s = v := w
    subst w
    show p s ≤ p s + 0
    omega
  | i :: is, s, v, ⟨m, c, e, w⟩ => by
    have h1 := fe_walk h w
    have h2 := h i s m c e
    show p v ≤ p s + (cst es i + sm es is)
    rw [cst_at e]; omega
theorem Stand.uniq {es : List Ed} {n : Nat} {ps qs : List Int} (S : Stand es n ps) (T : Stand es n qs) : ps = qs := by
  have half : ∀ {a b : List Int}, Stand es n a → Stand es n b → ∀ v, v < n → pf a v ≤ pf b v := fun {a b} A B v hv => by
    obtain ⟨s, is, h1, h2⟩ := B.at_.wk v hv
    have := fe_walk A.fe h1
    have := A.at_.le s
    omega
  refine List.ext_getElem (S.at_.lp.trans T.at_.lp.symm) fun i h1 h2 => ?_
  have hi : i < n := by rw [← S.at_.lp]; exact h1
  have a := half S T i hi
  have b := half T S i hi
  have e : pf ps i = pf qs i := by omega
  unfold pf at e
  rw [List.getD_eq_getElem?_getD, List.getD_eq_getElem?_getD, List.getElem?_eq_getElem h1, List.getElem?_eq_getElem h2] at e
  exact e
/-! ### walks made short -/
theorem dup_split {es : List Ed} {s v : Nat} {is : List Nat} (hw : Wk es s is v) (nd : ¬ (is.map (tl es)).Nodup) : ∃ a b c m, is = a ++ (b ++ c) ∧ b ≠ [] ∧ Wk es s a m ∧ Wk es m b m ∧ Wk es m c v := by
  apply Classical.byContradiction
  intro no
  refine nd ?_
  rw [List.nodup_iff_pairwise_ne, List.pairwise_map, List.pairwise_iff_getElem]
  intro i j hi hj hij eq
  have e1 : is = is.take i ++ (is.drop i) := (List.take_append_drop i is).symm
  have e2 : is.drop i = (is.drop i).take (j - i) ++ is.drop j := by
    have := (List.take_append_drop (j - i) (is.drop i)).symm
    rw [List.drop_drop, show i + (j - i) = j by omega] at this
    exact this
  have hw' := hw
  rw [e1] at hw'
  obtain ⟨m, w1, w2⟩ := wk_append.mp hw'
  rw [e2] at w2
  obtain ⟨k, w3, w4⟩ := wk_append.mp w2
  have di : is.drop i = is[i] :: is.drop (i + 1) := List.drop_eq_getElem_cons hi
  have dj : is.drop j = is[j] :: is.drop (j + 1) := List.drop_eq_getElem_cons hj
  have em : m = tl es is[i] := by
    rw [← e2, di] at w2
    exact (wk_tl w2).symm
  have ek : k = tl es is[j] := by
    rw [dj] at w4
    exact (wk_tl w4).symm
  have ekm : k = m := by rw [em, ek]; exact eq.symm
  subst ekm
  refine no ⟨is.take i, (is.drop i).take (j - i), is.drop j, k, by rw [← e2, ← e1], fun z => ?_, w1, w3, w4⟩
  have := congrArg List.length z
  rw [List.length_take, List.length_drop, List.length_nil] at this
  omega
theorem short_walk {es : List Ed} {n : Nat} (w : Wf es n) (no : ∀ k, ¬ CN es k) : ∀ (k : Nat) (is : List Nat) (s v : Nat), is.length = k → Wk es s is v → ∃ js, js.length ≤ n ∧ Wk es s js v ∧ sm es js ≤ sm es is := by
  intro k
  induction k using Nat.strongRecOn with
  | _ k ih =>
    intro is s v hk hw
    by_cases c : is.length ≤ n
    · exact ⟨is, c, hw, Int.le_refl _⟩
    · have nd : ¬ (is.map (tl es)).Nodup := fun z => by
        have := nodup_lt n _ z (wk_tl_lt w hw)
        rw [List.length_map] at this
        exact c this
      obtain ⟨a, b, d, m, e, hb, w1, w2, w3⟩ := dup_split hw nd
      have l1 : is.length = a.length + (b.length + d.length) := by rw [e, List.length_append, List.length_append]
      have lb : 0 < b.length := List.length_pos_iff.mpr hb
      obtain ⟨js, j1, j2, j3⟩ := ih (a ++ d).length (by rw [List.length_append]; omega) (a ++ d) s v rfl (wk_append.mpr ⟨m, w1, w3⟩)
      refine ⟨js, j1, j2, ?_⟩
      have hb0 : 0 ≤ sm es b := by
        apply Decidable.byContradiction
        intro z
        exact no b.length ⟨m, b, rfl, hb, w2, by omega⟩
      rw [sm_append] at j3
      rw [e, sm_append, sm_append]
      omega
/-! ### the law's rounds -/
structure Rl (es : List Ed) (n : Nat) (p0 ps : List Int) (fl : Bool) (k : Nat) : Prop where
  at_ : Att es n ps
  le : ∀ v, v < n → pf ps v ≤ pf p0 v
  ed : ∀ i, i < k → ∀ u v c, es[i]? = some (u, v, c) → pf ps v ≤ pf p0 u + c
  f0 : fl = false → ps = p0
  f1 : fl = true → ∃ v, v < n ∧ pf ps v < pf p0 v
theorem Rl.start {es : List Ed} {n : Nat} {ps : List Int} (A : Att es n ps) : Rl es n ps ps false 0 :=
  ⟨A, fun v _ => Int.le_refl _, fun i hi => absurd hi (Nat.not_lt_zero _), fun _ => rfl, fun h => (by cases h)⟩
theorem Rl.relax {es : List Ed} {n k u v : Nat} {p0 ps : List Int} {fl : Bool} {c : Int} (w : Wf es n) (R : Rl es n p0 ps fl k) (e : es[k]? = some (u, v, c)) (h : pf ps u + c < pf ps v) : Rl es n p0 (ps.set v (pf ps u + c)) true (k + 1) := by
  obtain ⟨hu, hv⟩ := w.at e
  have hp : ∀ x, pf (ps.set v (pf ps u + c)) x = if x = v then pf ps u + c else pf ps x := fun x => getD_set (by rw [R.at_.lp]; exact hv)
  have lower : ∀ x, pf (ps.set v (pf ps u + c)) x ≤ pf ps x := fun x => by
    rw [hp]
    split
    · rename_i q; rw [q]; omega
    · exact Int.le_refl _
  refine ⟨R.at_.relax e hu hv h, fun x hx => Int.le_trans (lower x) (R.le x hx), fun i hi a b d e' => ?_, fun z => (by cases z), fun _ => ⟨v, hv, ?_⟩⟩
  · by_cases q : i = k
    · subst q
      rw [e] at e'
      cases e'
      rw [hp, if_pos rfl]
      have := R.le u hu
      omega
    · exact Int.le_trans (lower b) (R.ed i (by omega) a b d e')
  · rw [hp, if_pos rfl]
    have := R.le v hv
    omega
theorem Rl.skip {es : List Ed} {n k u v : Nat} {p0 ps : List Int} {fl : Bool} {c : Int} (w : Wf es n) (R : Rl es n p0 ps fl k) (e : es[k]? = some (u, v, c)) (h : ¬ pf ps u + c < pf ps v) : Rl es n p0 ps fl (k + 1) := by
  obtain ⟨hu, hv⟩ := w.at e
  refine ⟨R.at_, R.le, fun i hi a b d e' => ?_, R.f0, R.f1⟩
  by_cases q : i = k
  · subst q
    rw [e] at e'
    cases e'
    have := R.le u hu
    omega
  · exact R.ed i (by omega) a b d e'
theorem Rl.stand {es : List Ed} {n : Nat} {p0 ps : List Int} (R : Rl es n p0 ps false es.length) : Stand es n ps :=
  ⟨R.at_, fun i u v c e => by
    have h1 := R.ed i (List.getElem?_eq_some_iff.mp e).1 u v c e
    rw [← R.f0 rfl] at h1
    exact h1⟩
def BW (es : List Ed) (i : Nat) (ps : List Int) : Prop := ∀ (is : List Nat) (s v : Nat), is.length ≤ i → Wk es s is v → pf ps v ≤ sm es is
theorem BW.start (es : List Ed) (n : Nat) : BW es 0 (List.replicate n 0) := fun is s v h w => by
  have h : is = [] := List.length_eq_zero_iff.mp (by omega)
  subst h
  rw [pf_rep]
  exact Int.le_refl _
theorem BW.next {es : List Ed} {n i : Nat} {p0 ps : List Int} {fl : Bool} (w : Wf es n) (H : BW es i p0) (R : Rl es n p0 ps fl es.length) : BW es (i + 1) ps := fun is s v h hw => by
  by_cases h0 : is = []
  · subst h0
    exact R.at_.le v
  · obtain ⟨a, j, rfl⟩ : ∃ a j, is = a ++ [j] := ⟨is.dropLast, is.getLast h0, (List.dropLast_concat_getLast h0).symm⟩
    rw [List.length_append, List.length_singleton] at h
    obtain ⟨u, w1, m, c, e, w2⟩ := wk_append.mp hw
    have w2 : m = v := w2
    subst w2
    have h1 := H a s u (by omega) w1
    have h2 := R.ed j (List.getElem?_eq_some_iff.mp e).1 u m c e
    rw [sm_append, sm_one, cst_at e]
    omega
theorem BW.cn {es : List Ed} {n i : Nat} {p0 ps : List Int} (w : Wf es n) (H : BW es i p0) (hi : n ≤ i) (R : Rl es n p0 ps true es.length) : ∃ k, CN es k := by
  apply Classical.byContradiction
  intro no
  have no : ∀ k, ¬ CN es k := fun k c => no ⟨k, c⟩
  obtain ⟨v, hv, lt⟩ := R.f1 rfl
  obtain ⟨s, is, h1, h2⟩ := R.at_.wk v hv
  obtain ⟨js, j1, j2, j3⟩ := short_walk w no is.length is s v rfl h1
  have := H js s v (by omega) j2
  omega
/-! ### rings that fall -/
structure RingOk (es : List Ed) (is : List Nat) : Prop where
  ne : is ≠ []
  wk : ∃ s, Wk es s is s
  nd : (is.map (tl es)).Nodup
  neg : sm es is < 0
theorem RingOk.cn {es : List Ed} {is : List Nat} (h : RingOk es is) : CN es is.length := let ⟨s, w⟩ := h.wk; ⟨s, is, rfl, h.ne, w, h.neg⟩
theorem RingOk.len {es : List Ed} {n : Nat} {is : List Nat} (w : Wf es n) (h : RingOk es is) : is.length ≤ n := by
  obtain ⟨s, wk⟩ := h.wk
  have := nodup_lt n _ h.nd (wk_tl_lt w wk)
  rwa [List.length_map] at this
theorem PP.split {es : List Ed} {la : List (Option Nat)} : ∀ {p q x y z : Nat}, PP es la (p + q) x z → PP es la p x y → PP es la q y z
  | 0, q, x, y, z, h, e => by
    have e : x = y := e
    subst e
    rw [Nat.zero_add] at h
    exact h
  | p + 1, q, x, y, z, h, ⟨i, u, c, e1, e2, h2⟩ => by
    rw [show p + 1 + q = (p + q) + 1 by omega] at h
    obtain ⟨i', u', c', e1', e2', h'⟩ := h
    rw [e1] at e1'
    cases e1'
    rw [e2] at e2'
    cases e2'
    exact PP.split h' h2
theorem PP.join {es : List Ed} {la : List (Option Nat)} : ∀ {p q x y z : Nat}, PP es la p x y → PP es la q y z → PP es la (p + q) x z
  | 0, q, x, y, z, e, h => by
    have e : x = y := e
    subst e
    rw [Nat.zero_add]
    exact h
  | p + 1, q, x, y, z, ⟨i, u, c, e1, e2, h2⟩, h => by
    rw [show p + 1 + q = (p + q) + 1 by omega]
    exact ⟨i, u, c, e1, e2, PP.join h2 h⟩
theorem PP.det {es : List Ed} {la : List (Option Nat)} : ∀ {p x y z : Nat}, PP es la p x y → PP es la p x z → y = z
  | 0, x, y, z, e, e' => (show x = y from e).symm.trans e'
  | p + 1, x, y, z, ⟨i, u, c, e1, e2, h2⟩, ⟨i', u', c', e1', e2', h'⟩ => by
    rw [e1] at e1'
    cases e1'
    rw [e2] at e2'
    cases e2'
    exact PP.det h2 h'
/-- the nodes on the way back, until the first one comes again -/
theorem back_nodup {es : List Ed} {la : List (Option Nat)} {node : Nat} {ts : List Nat} (h : ∀ k (hk : k < ts.length), PP es la (k + 1) node ts[k]) (hne : ∀ k (hk : k < ts.length), k + 1 < ts.length → ts[k] ≠ node) (hl : ∀ (h0 : 0 < ts.length), ts[ts.length - 1] = node) : ts.Nodup := by
  rw [List.nodup_iff_pairwise_ne, List.pairwise_iff_getElem]
  intro a b ha hb hab eq
  have pa := h a ha
  have pb := h b hb
  have pl := h (ts.length - 1) (by omega)
  rw [hl (by omega)] at pl
  rw [show ts.length - 1 + 1 = (b + 1) + (ts.length - 1 - b) by omega] at pl
  have tailp := pl.split pb
  rw [← eq] at tailp
  have pc := pa.join tailp
  have hk : a + (ts.length - 1 - b) < ts.length := by omega
  have pd := h _ hk
  rw [show a + (ts.length - 1 - b) + 1 = a + 1 + (ts.length - 1 - b) by omega] at pd
  exact hne _ hk (by omega) (pd.det pc)
/-! ### a ring by its ends -/
theorem wk_chain {es : List Ed} : ∀ {is : List Nat} {s v : Nat}, (∀ i ∈ is, i < es.length) → is ≠ [] → (is.map (tl es))[0]? = some s → (is.map (hd es))[is.length - 1]? = some v → (∀ k, k + 1 < is.length → (is.map (hd es))[k]? = (is.map (tl es))[k + 1]?) → Wk es s is v
  | [], _, _, _, h, _, _, _ => absurd rfl h
  | [i], s, v, hi, _, h0, hl, _ => by
    have hi := hi i (by simp)
    have e : es[i]? = some es[i] := List.getElem?_eq_getElem hi
    have h0 : tl es i = s := Option.some.inj h0
    have hl : hd es i = v := Option.some.inj hl
    refine ⟨es[i].2.1, es[i].2.2, ?_, ?_⟩
    · rw [e, ← h0, tl_at (u := es[i].1) (v := es[i].2.1) (c := es[i].2.2) e]
    · show es[i].2.1 = v
      rw [← hl, hd_at (u := es[i].1) (v := es[i].2.1) (c := es[i].2.2) e]
  | i :: j :: is, s, v, hi, _, h0, hl, hc => by
    have hii := hi i (by simp)
    have e : es[i]? = some es[i] := List.getElem?_eq_getElem hii
    have h0 : tl es i = s := Option.some.inj h0
    have c0 := hc 0 (by simp)
    have c0 : hd es i = tl es j := Option.some.inj c0
    refine ⟨hd es i, es[i].2.2, ?_, ?_⟩
    · rw [e, ← h0, tl_at (u := es[i].1) (v := es[i].2.1) (c := es[i].2.2) e, hd_at (u := es[i].1) (v := es[i].2.1) (c := es[i].2.2) e]
    · refine wk_chain (fun x hx => hi x (List.mem_cons_of_mem _ hx)) (by simp) (by rw [c0]; rfl) ?_ fun k hk => ?_
      · rw [show (i :: j :: is).length - 1 = (j :: is).length - 1 + 1 by simp only [List.length_cons]; omega] at hl
        exact hl
      · exact hc (k + 1) (by simp only [List.length_cons] at hk ⊢; omega)
end GK.N2
namespace GK.N2
/-- the first k places of a ring fit -/
def prv (n k : Nat) : Nat := if k = 0 then n - 1 else k - 1
def Cyc (es : List Ed) (js : List Nat) (k : Nat) : Prop := ∀ i, i < k → (js.map (hd es))[prv js.length i]? = (js.map (tl es))[i]? ∧ ∀ t, (js.map (tl es))[i]? = some t → t ∉ (js.map (tl es)).take i
theorem Cyc.zero {es : List Ed} {js : List Nat} : Cyc es js 0 := fun i h => absurd h (Nat.not_lt_zero _)
theorem Cyc.step {es : List Ed} {js : List Nat} {k : Nat} (h : Cyc es js k) (h1 : (js.map (hd es))[prv js.length k]? = (js.map (tl es))[k]?) (h2 : ∀ t, (js.map (tl es))[k]? = some t → t ∉ (js.map (tl es)).take k) : Cyc es js (k + 1) := fun i hi => by
  by_cases q : i < k
  · exact h i q
  · have q : i = k := by omega
    subst q
    exact ⟨h1, h2⟩
theorem RingOk.cyc {es : List Ed} {js : List Nat} (r : RingOk es js) : Cyc es js js.length := fun i hi => by
  obtain ⟨s, w⟩ := r.wk
  have hh := wk_heads w
  have h0 : (js.map (tl es))[0]? = some s := by
    cases js with
    | nil => exact absurd rfl r.ne
    | cons j js => show some (tl es j) = some s; rw [wk_tl w]
  refine ⟨?_, fun t ht hm => ?_⟩
  · unfold prv
    by_cases q : i = 0
    · subst q
      rw [if_pos rfl, hh (js.length - 1) (by omega), if_neg (by omega), h0]
    · rw [if_neg q, hh (i - 1) (by omega), if_pos (by omega), show i - 1 + 1 = i by omega]
      have : i < (js.map (tl es)).length := by rw [List.length_map]; exact hi
      rw [List.getElem?_eq_getElem this]; rfl
  · obtain ⟨k, hk, e⟩ := List.mem_iff_getElem.mp hm
    rw [List.getElem_take] at e
    rw [List.length_take] at hk
    have hi' : i < (js.map (tl es)).length := by rw [List.length_map]; exact hi
    rw [List.getElem?_eq_getElem hi'] at ht
    have := (List.getElem_inj r.nd).mp (e.trans (Option.some.inj ht).symm)
    omega
theorem Cyc.ring {es : List Ed} {js : List Nat} (h : Cyc es js js.length) (ne : js ≠ []) (hv : ∀ j ∈ js, j < es.length) (hs : sm es js < 0) : RingOk es js := by
  have pos : 0 < js.length := List.length_pos_iff.mpr ne
  have lt : (js.map (tl es)).length = js.length := List.length_map ..
  have h0 : (js.map (tl es))[0]? = some ((js.map (tl es))[0]'(by omega)) := List.getElem?_eq_getElem _
  refine ⟨ne, ⟨_, wk_chain hv ne h0 ?_ fun k hk => ?_⟩, ?_, hs⟩
  · have := (h 0 pos).1
    unfold prv at this
    rw [if_pos rfl] at this
    rw [this, h0]
  · have := (h (k + 1) hk).1
    unfold prv at this
    rw [if_neg (by omega)] at this
    exact this
  · rw [List.nodup_iff_pairwise_ne, List.pairwise_iff_getElem]
    intro a b ha hb hab eq
    have := (h b (by omega)).2 _ (List.getElem?_eq_getElem hb)
    refine this ?_
    rw [← eq]
    exact List.mem_iff_getElem.mpr ⟨a, by rw [List.length_take]; omega, by rw [List.getElem_take]⟩
def RingI (es : List Ed) (is : List Int) : Prop := ∃ js : List Nat, is = js.map (fun j : Nat => (j : Int)) ∧ RingOk es js
theorem toNats {N : Nat} : ∀ {is : List Int}, (∀ i ∈ is, 0 ≤ i ∧ i < N) → ∃ js : List Nat, is = js.map (fun j : Nat => (j : Int)) ∧ ∀ j ∈ js, j < N
  | [], _ => ⟨[], rfl, fun j h => by cases h⟩
  | i :: is, h => by
    obtain ⟨js, e, hj⟩ := toNats fun x hx => h x (List.mem_cons_of_mem _ hx)
    obtain ⟨h0, h1⟩ := h i List.mem_cons_self
    refine ⟨i.toNat :: js, ?_, fun j hj' => ?_⟩
    · rw [List.map_cons, ← e, Int.toNat_of_nonneg h0]
    · rcases List.mem_cons.mp hj' with rfl | z
      · omega
      · exact hj j z
theorem nats_inj : ∀ {a b : List Nat}, a.map (fun j : Nat => (j : Int)) = b.map (fun j : Nat => (j : Int)) → a = b
  | [], [], _ => rfl
  | [], _ :: _, h => by cases h
  | _ :: _, [], h => by cases h
  | x :: a, y :: b, h => by
    rw [List.map_cons, List.map_cons] at h
    injection h with h1 h2
    rw [Int.ofNat.inj h1, nats_inj h2]
theorem RingI.nat {es : List Ed} {js : List Nat} (h : RingI es (js.map fun j : Nat => (j : Int))) : RingOk es js := by
  obtain ⟨ks, e, r⟩ := h
  rw [nats_inj e]; exact r
theorem RingI.valid {es : List Ed} {is : List Int} (h : RingI es is) : is ≠ [] ∧ ∀ i ∈ is, 0 ≤ i ∧ i < es.length := by
  obtain ⟨js, rfl, r⟩ := h
  obtain ⟨s, w⟩ := r.wk
  refine ⟨fun z => r.ne (List.map_eq_nil_iff.mp z), fun i hi => ?_⟩
  obtain ⟨j, hj, rfl⟩ := List.mem_map.mp hi
  have := wk_ix w j hj
  omega
/-- prices that stand, of these nodes -/
def StandP (es : List Ed) (n : Nat) (ps : List Int) : Prop := ps.length = n ∧ ∀ e ∈ es, pf ps e.2.1 ≤ pf ps e.1 + e.2.2
end GK.N2

namespace GK.N7
open PySem
abbrev Tst := Str × Str × Int
abbrev Sm := Str → Str → Int
/-! ### closing of tests -/
def up (g : Sm) (x y : Str) (v : Int) : Sm := fun a b => if a = x ∧ b = y then v else g a b
def mn (a b : Int) : Int := if b < a then b else a
def g0 : Sm := fun x y => if x = y ∨ x = "" then 0 else 9999
def pT1 (g : Sm) (t : Tst) : Sm := up g t.1 t.2.1 (mn (g t.1 t.2.1) t.2.2)
def rx (y x : Str) (g : Sm) (z : Str) : Sm := up g x z (mn (g x z) (g x y + g y z))
def rowP (ws : List Str) (y : Str) (g : Sm) (x : Str) : Sm := ws.foldl (rx y x) g
def pass (ws : List Str) (g : Sm) (y : Str) : Sm := ws.foldl (rowP ws y) g
def clo0 (ts : List Tst) : Sm := ts.foldl pT1 g0
def clo (ws : List Str) (ts : List Tst) : Sm := ws.foldl (pass ws) (clo0 ts)
def neg (ws : List Str) (g : Sm) : Bool := ws.any fun w => decide (g w w < 0)
theorem mn_le1 {a b : Int} : mn a b ≤ a := by unfold mn; split <;> omega
theorem mn_le2 {a b : Int} : mn a b ≤ b := by unfold mn; split <;> omega
theorem mn_or {a b : Int} : mn a b = a ∨ mn a b = b := by unfold mn; split <;> omega
theorem le_mn {a b c : Int} (h1 : c ≤ a) (h2 : c ≤ b) : c ≤ mn a b := by unfold mn; split <;> omega
theorem foldl_keep {α σ : Type} {f : σ → α → σ} {I : σ → Prop} {l : List α} (h : ∀ s, ∀ a ∈ l, I s → I (f s a)) {s : σ} (hs : I s) : I (l.foldl f s) := by
  induction l generalizing s with
  | nil => exact hs
  | cons a r ih => exact ih (fun s b hb => h s b (List.mem_cons_of_mem _ hb)) (h s a List.mem_cons_self hs)
theorem foldl_done {α σ : Type} {f : σ → α → σ} {I : σ → Prop} {Q : α → σ → Prop} {l : List α} (h1 : ∀ s, ∀ a ∈ l, I s → I (f s a)) (h2 : ∀ s a b, b ∈ l → I s → Q a s → Q a (f s b)) (h3 : ∀ s, ∀ a ∈ l, I s → Q a (f s a)) {s : σ} (hs : I s) : ∀ a ∈ l, Q a (l.foldl f s) := by
  induction l generalizing s with
  | nil => exact fun a h => nomatch h
  | cons b r ih =>
    intro a ha
    have hb := h1 s b List.mem_cons_self hs
    have rest := ih (fun s b hb => h1 s b (List.mem_cons_of_mem _ hb)) (fun s a b hb => h2 s a b (List.mem_cons_of_mem _ hb)) (fun s b hb => h3 s b (List.mem_cons_of_mem _ hb)) hb
    rcases List.mem_cons.mp ha with e | h
    · subst e
      have q := h3 s a List.mem_cons_self hs
      exact (foldl_keep (f := f) (I := fun s => I s ∧ Q a s) (l := r) (fun s b hb ⟨i, q⟩ => ⟨h1 s b (List.mem_cons_of_mem _ hb) i, h2 s a b (List.mem_cons_of_mem _ hb) i q⟩) ⟨hb, q⟩).2
    · exact rest a h
/-- nothing grows -/
def Le (g h : Sm) : Prop := ∀ a b, g a b ≤ h a b
theorem Le.rfl' {g : Sm} : Le g g := fun _ _ => Int.le_refl _
theorem Le.tr {g h k : Sm} (p : Le g h) (q : Le h k) : Le g k := fun a b => Int.le_trans (p a b) (q a b)
theorem up_le {g : Sm} {x y : Str} {v : Int} (h : v ≤ g x y) : Le (up g x y v) g := fun a b => by
  unfold up
  split
  · rename_i q; rw [q.1, q.2]; exact h
  · exact Int.le_refl _
theorem rx_le {y x z : Str} {g : Sm} : Le (rx y x g z) g := up_le mn_le1
theorem rowP_le {ws : List Str} {y x : Str} {g : Sm} : Le (rowP ws y g x) g := foldl_keep (I := fun h => Le h g) (fun s a _ h => rx_le.tr h) Le.rfl'
theorem pass_le {ws : List Str} {y : Str} {g : Sm} : Le (pass ws g y) g := foldl_keep (I := fun h => Le h g) (fun s a _ h => rowP_le.tr h) Le.rfl'
theorem passes_le {ws l : List Str} {g : Sm} : Le (l.foldl (pass ws) g) g := foldl_keep (I := fun h => Le h g) (fun s a _ h => pass_le.tr h) Le.rfl'
theorem pT1_le {g : Sm} {t : Tst} : Le (pT1 g t) g := up_le mn_le1
theorem clo0_le {ts : List Tst} : Le (clo0 ts) g0 := foldl_keep (I := fun h => Le h g0) (fun s a _ h => pT1_le.tr h) Le.rfl'
theorem clo_le {ws : List Str} {ts : List Tst} : Le (clo ws ts) (clo0 ts) := passes_le
theorem clo0_test {ts : List Tst} {t : Tst} (ht : t ∈ ts) : clo0 ts t.1 t.2.1 ≤ t.2.2 :=
  foldl_done (f := pT1) (I := fun _ => True) (Q := fun t g => g t.1 t.2.1 ≤ t.2.2) (fun _ _ _ _ => trivial) (fun s a b _ _ q => Int.le_trans (pT1_le _ _) q) (fun s a _ _ => by
    show up s a.1 a.2.1 (mn (s a.1 a.2.1) a.2.2) a.1 a.2.1 ≤ a.2.2
    unfold up
    rw [if_pos ⟨rfl, rfl⟩]
    exact mn_le2) trivial t ht
/-- a potential stays one -/
def Sd (ws : List Str) (p : Str → Int) (g : Sm) : Prop := ∀ x ∈ ws, ∀ y ∈ ws, p y ≤ p x + g x y
theorem up_sd {ws : List Str} {p : Str → Int} {g : Sm} {x y : Str} {v : Int} (h : Sd ws p g) (hv : x ∈ ws → y ∈ ws → p y ≤ p x + v) : Sd ws p (up g x y v) := fun a ha b hb => by
  unfold up
  split
  · rename_i q
    rw [q.1] at ha ⊢
    rw [q.2] at hb ⊢
    exact hv ha hb
  · exact h a ha b hb
theorem mn_sd {a b c d : Int} (h1 : d ≤ c + a) (h2 : d ≤ c + b) : d ≤ c + mn a b := by unfold mn; split <;> assumption
theorem rx_sd {ws : List Str} {p : Str → Int} {g : Sm} {y x z : Str} (hy : y ∈ ws) (h : Sd ws p g) : Sd ws p (rx y x g z) := up_sd h fun hx hz => mn_sd (h x hx z hz) (by
  have := h x hx y hy
  have := h y hy z hz
  omega)
theorem pass_sd {ws : List Str} {p : Str → Int} {g : Sm} {y : Str} (hy : y ∈ ws) (h : Sd ws p g) : Sd ws p (pass ws g y) :=
  foldl_keep (fun s x _ hs => foldl_keep (fun s z _ hs => rx_sd hy hs) hs) h
theorem clo_sd {ws : List Str} {p : Str → Int} {ts : List Tst} (h : Sd ws p (clo0 ts)) : Sd ws p (clo ws ts) := foldl_keep (fun s y hy hs => pass_sd hy hs) h
theorem clo0_sd {ws : List Str} {p : Str → Int} {ts : List Tst} (h : Sd ws p g0) (ht : ∀ t ∈ ts, p t.2.1 ≤ p t.1 + t.2.2) : Sd ws p (clo0 ts) :=
  foldl_keep (fun s t h1 hs => up_sd hs fun hx hy => mn_sd (hs _ hx _ hy) (ht t h1)) h
theorem g0_sd {ws : List Str} {p : Str → Int} (h1 : ∀ w ∈ ws, p w ≤ p "") (h2 : ∀ w ∈ ws, p "" ≤ p w + 9999) : Sd ws p g0 := fun x hx y hy => by
  unfold g0
  split
  · rename_i q
    rcases q with e | e
    · rw [e]; omega
    · rw [e]; have := h1 y hy; omega
  · have := h1 y hy
    have := h2 x hx
    omega
theorem neg_false {ws : List Str} {g : Sm} : neg ws g = false ↔ ∀ w ∈ ws, 0 ≤ g w w := by
  unfold neg
  rw [List.any_eq_false]
  constructor
  · intro h w hw
    have := h w hw
    rw [decide_eq_true_eq] at this
    omega
  · intro h w hw
    rw [decide_eq_true_eq]
    have := h w hw
    omega
theorem sd_neg {ws : List Str} {p : Str → Int} {g : Sm} (h : Sd ws p g) : neg ws g = false := neg_false.mpr fun w hw => by
  have := h w hw w hw
  omega
/-- the pass of one word, where it is no fall by itself -/
def fx (y : Str) (g : Sm) : Sm := fun a b => mn (g a b) (g a y + g y b)
def Btw (y : Str) (g h : Sm) : Prop := ∀ a b, h a b = g a b ∨ h a b = fx y g a b
theorem fx_y1 {y a : Str} {g : Sm} (h : 0 ≤ g y y) : fx y g a y = g a y := by unfold fx mn; split <;> omega
theorem fx_y2 {y a : Str} {g : Sm} (h : 0 ≤ g y y) : fx y g y a = g y a := by unfold fx mn; split <;> omega
theorem Btw.y1 {y a : Str} {g h : Sm} (h0 : 0 ≤ g y y) (b : Btw y g h) : h a y = g a y := (b a y).elim id fun e => e.trans (fx_y1 h0)
theorem Btw.y2 {y a : Str} {g h : Sm} (h0 : 0 ≤ g y y) (b : Btw y g h) : h y a = g y a := (b y a).elim id fun e => e.trans (fx_y2 h0)
theorem mn_mn {a b : Int} : mn (mn a b) b = mn a b := by unfold mn; split <;> (try split) <;> omega
theorem rx_at {y x z : Str} {g h : Sm} (h0 : 0 ≤ g y y) (b : Btw y g h) : mn (h x z) (h x y + h y z) = fx y g x z := by
  rw [b.y1 h0, b.y2 h0]
  rcases b x z with e | e
  · rw [e]; rfl
  · rw [e]; exact mn_mn
theorem rx_btw {y x z : Str} {g h : Sm} (h0 : 0 ≤ g y y) (b : Btw y g h) : Btw y g (rx y x h z) := fun a c => by
  unfold rx up
  split
  · rename_i q
    rw [q.1, q.2]
    exact .inr (rx_at h0 b)
  · exact b a c
theorem rx_stay {y x z a c : Str} {g h : Sm} (h0 : 0 ≤ g y y) (b : Btw y g h) (e : h a c = fx y g a c) : rx y x h z a c = fx y g a c := by
  unfold rx up
  split
  · rename_i q
    rw [q.1, q.2]
    exact rx_at h0 b
  · exact e
theorem rx_done {y x z : Str} {g h : Sm} (h0 : 0 ≤ g y y) (b : Btw y g h) : rx y x h z x z = fx y g x z := by
  unfold rx up
  rw [if_pos ⟨rfl, rfl⟩]
  exact rx_at h0 b
theorem rowP_btw {ws : List Str} {y x : Str} {g h : Sm} (h0 : 0 ≤ g y y) (b : Btw y g h) : Btw y g (rowP ws y h x) := foldl_keep (fun s z _ hs => rx_btw h0 hs) b
theorem rowP_stay {ws : List Str} {y x a c : Str} {g h : Sm} (h0 : 0 ≤ g y y) (b : Btw y g h) (e : h a c = fx y g a c) : rowP ws y h x a c = fx y g a c :=
  (foldl_keep (I := fun s => Btw y g s ∧ s a c = fx y g a c) (fun s z _ hs => ⟨rx_btw h0 hs.1, rx_stay h0 hs.1 hs.2⟩) ⟨b, e⟩).2
theorem rowP_done {ws : List Str} {y x : Str} {g h : Sm} (h0 : 0 ≤ g y y) (b : Btw y g h) : ∀ z ∈ ws, rowP ws y h x x z = fx y g x z :=
  foldl_done (I := fun s => Btw y g s) (Q := fun z s => s x z = fx y g x z) (fun s z _ hs => rx_btw h0 hs) (fun s a c _ hs e => rx_stay h0 hs e) (fun s z _ hs => rx_done h0 hs) b
theorem pass_eq {ws : List Str} {y : Str} {g : Sm} (h0 : 0 ≤ g y y) : ∀ x ∈ ws, ∀ z ∈ ws, pass ws g y x z = fx y g x z :=
  foldl_done (I := fun s => Btw y g s) (Q := fun x s => ∀ z ∈ ws, s x z = fx y g x z) (fun s x _ hs => rowP_btw h0 hs) (fun s a c _ hs e z hz => rowP_stay h0 hs (e z hz)) (fun s x _ hs => rowP_done h0 hs) fun _ _ => .inl rfl
/-- no way round by m is less -/
def Tri (ws : List Str) (m : Str) (g : Sm) : Prop := ∀ x ∈ ws, ∀ z ∈ ws, g x z ≤ g x m + g m z
theorem pass_new {ws : List Str} {y : Str} {g : Sm} (hy : y ∈ ws) (h0 : 0 ≤ g y y) : Tri ws y (pass ws g y) := fun x hx z hz => by
  rw [pass_eq h0 x hx z hz, pass_eq h0 x hx y hy, pass_eq h0 y hy z hz, fx_y1 h0, fx_y2 h0]
  exact mn_le2
theorem pass_old {ws : List Str} {y m : Str} {g : Sm} (hy : y ∈ ws) (hm : m ∈ ws) (h0 : 0 ≤ g y y) (t : Tri ws m g) : Tri ws m (pass ws g y) := fun x hx z hz => by
  rw [pass_eq h0 x hx z hz, pass_eq h0 x hx m hm, pass_eq h0 m hm z hz]
  have a := t x hx z hz
  have b := t y hy z hz
  have c := t x hx y hy
  have d := t y hy y hy
  have e1 : fx y g x z ≤ g x z := mn_le1
  have e2 : fx y g x z ≤ g x y + g y z := mn_le2
  rcases mn_or (a := g x m) (b := g x y + g y m) with p | p <;> rcases mn_or (a := g m z) (b := g m y + g y z) with q | q <;>
    (show fx y g x z ≤ mn (g x m) (g x y + g y m) + mn (g m z) (g m y + g y z); rw [p, q]; omega)
theorem passes_tri {ws : List Str} : ∀ (l : List Str) (g : Sm) (M : Str → Prop), (∀ m, M m → m ∈ ws) → (∀ m, M m → Tri ws m g) → (∀ y ∈ l, y ∈ ws) → (∀ w ∈ ws, 0 ≤ (l.foldl (pass ws) g) w w) → ∀ m, M m ∨ m ∈ l → Tri ws m (l.foldl (pass ws) g)
  | [], g, M, _, t, _, _, m, h => t m (h.elim id fun z => nomatch z)
  | y :: l, g, M, hM, t, hl, hd, m, h => by
    have hy := hl y List.mem_cons_self
    have h0 : 0 ≤ g y y := Int.le_trans (hd y hy) (Int.le_trans (passes_le (ws := ws) (l := l) (g := pass ws g y) y y) (pass_le (ws := ws) (y := y) (g := g) y y))
    refine passes_tri l (pass ws g y) (fun m => M m ∨ m = y) (fun m h => h.elim (hM m) fun z => z ▸ hy) (fun m h => ?_) (fun z hz => hl z (List.mem_cons_of_mem _ hz)) hd m ?_
    · rcases h with h | h
      · exact pass_old hy (hM m h) h0 (t m h)
      · subst h; exact pass_new hy h0
    · rcases h with h | h
      · exact .inl (.inl h)
      · rcases List.mem_cons.mp h with h | h
        · exact .inl (.inr h)
        · exact .inr h
/-- .. closed: all ways round -/
theorem clo_tri {ws : List Str} {ts : List Tst} (h : neg ws (clo ws ts) = false) : ∀ m ∈ ws, Tri ws m (clo ws ts) := fun m hm =>
  passes_tri ws (clo0 ts) (fun _ => False) (fun _ z => z.elim) (fun _ z => z.elim) (fun _ h => h) (neg_false.mp h) m (.inr hm)
theorem clo_self {ws : List Str} {ts : List Tst} (w : Str) : clo ws ts w w ≤ 0 := Int.le_trans (clo_le w w) (Int.le_trans (clo0_le w w) (by unfold g0; rw [if_pos (.inl rfl)]; exact Int.le_refl _))
theorem clo_from {ws : List Str} {ts : List Tst} (w : Str) : clo ws ts "" w ≤ 0 := Int.le_trans (clo_le _ w) (Int.le_trans (clo0_le _ w) (by unfold g0; rw [if_pos (.inr rfl)]; exact Int.le_refl _))
theorem clo_to {ws : List Str} {ts : List Tst} (w : Str) : clo ws ts w "" ≤ 9999 := Int.le_trans (clo_le w _) (Int.le_trans (clo0_le w _) (by unfold g0; split <;> omega))
theorem clo_test {ws : List Str} {ts : List Tst} {t : Tst} (ht : t ∈ ts) : clo ws ts t.1 t.2.1 ≤ t.2.2 := Int.le_trans (clo_le _ _) (clo0_test ht)
end GK.N7

namespace GK.N7
open PySem GK.N2
/-! ### conditions -/
inductive Cond where
  | lacks (n : Str)
  | most (t : Tst)
def test1 : Cond → Option Tst
  | .most t => some t
  | .lacks _ => none
def lack1 : Cond → Option Str
  | .most _ => none
  | .lacks n => some n
def CondOk : Cond → Prop
  | .lacks n => strOk n = true
  | .most t => strOk t.1 = true ∧ strOk t.2.1 = true
def tests (cs : List Cond) : List Tst := cs.filterMap test1
def lacked (cs : List Cond) : List Str := cs.filterMap lack1
def addW (l : List Str) (w : Str) : List Str := if w ≠ "" ∧ w ∉ l then l ++ [w] else l
def addT (l : List Str) (t : Tst) : List Str := addW (addW l t.1) t.2.1
def used (ts : List Tst) : List Str := ts.foldl addT []
def names (cs : List Cond) : List Str := (used (tests cs)).mergeSort leS
def words (cs : List Cond) : List Str := "" :: names cs
def G (cs : List Cond) : Sm := clo (words cs) (tests cs)
def bad (cs : List Cond) : Bool := (lacked cs).any fun n => decide (n ∈ names cs)
def no (cs : List Cond) : Bool := bad cs || neg (words cs) (G cs)
theorem addW_mem {l : List Str} {w x : Str} : x ∈ addW l w ↔ x ∈ l ∨ (x = w ∧ w ≠ "") := by
  unfold addW
  split
  · rename_i h
    rw [List.mem_append, List.mem_singleton]
    exact ⟨fun z => z.elim .inl fun z => .inr ⟨z, h.1⟩, fun z => z.elim .inl fun z => .inr z.1⟩
  · rename_i h
    refine ⟨.inl, fun z => z.elim id fun z => ?_⟩
    apply Classical.byContradiction
    intro q
    exact h ⟨z.2, by rw [← z.1]; exact q⟩
theorem addW_nd {l : List Str} {w : Str} (h : l.Nodup) : (addW l w).Nodup := by
  unfold addW
  split
  · rename_i q
    exact List.nodup_append.mpr ⟨h, by simp, fun a ha b hb e => by
      rw [List.mem_singleton] at hb
      exact q.2 (by rw [← hb, ← e]; exact ha)⟩
  · exact h
theorem addW_len {l : List Str} {w : Str} : (addW l w).length ≤ l.length + 1 := by
  unfold addW
  split
  · rw [List.length_append, List.length_singleton]; omega
  · omega
theorem used_foldl {ts : List Tst} : ∀ {l : List Str}, (∀ x, x ∈ ts.foldl addT l ↔ x ∈ l ∨ (x ≠ "" ∧ ∃ t ∈ ts, x = t.1 ∨ x = t.2.1)) ∧ (l.Nodup → (ts.foldl addT l).Nodup) ∧ (ts.foldl addT l).length ≤ l.length + 2 * ts.length := by
  induction ts with
  | nil => exact fun {l} => ⟨fun x => ⟨.inl, fun z => z.elim id fun z => (by obtain ⟨_, t, h, _⟩ := z; cases h)⟩, id, by simp⟩
  | cons t ts ih =>
    intro l
    obtain ⟨h1, h2, h3⟩ := ih (l := addT l t)
    refine ⟨fun x => ?_, fun nd => h2 (addW_nd (addW_nd nd)), ?_⟩
    · rw [List.foldl_cons, h1]
      unfold addT
      rw [addW_mem, addW_mem]
      constructor
      · rintro (((h | ⟨h, q⟩) | ⟨h, q⟩) | ⟨q, s, hs, h⟩)
        · exact .inl h
        · exact .inr ⟨h ▸ q, t, List.mem_cons_self, .inl h⟩
        · exact .inr ⟨h ▸ q, t, List.mem_cons_self, .inr h⟩
        · exact .inr ⟨q, s, List.mem_cons_of_mem _ hs, h⟩
      · rintro (h | ⟨q, s, hs, h⟩)
        · exact .inl (.inl (.inl h))
        · rcases List.mem_cons.mp hs with e | hs
          · subst e
            rcases h with h | h
            · exact .inl (.inl (.inr ⟨h, h ▸ q⟩))
            · exact .inl (.inr ⟨h, h ▸ q⟩)
          · exact .inr ⟨q, s, hs, h⟩
    · rw [List.foldl_cons, List.length_cons]
      have a := addW_len (l := l) (w := t.1)
      have b := addW_len (l := addW l t.1) (w := t.2.1)
      have c : (addT l t).length = (addW (addW l t.1) t.2.1).length := rfl
      omega
theorem used_mem {ts : List Tst} {x : Str} : x ∈ used ts ↔ x ≠ "" ∧ ∃ t ∈ ts, x = t.1 ∨ x = t.2.1 := by
  have := used_foldl (ts := ts) (l := [])
  unfold used
  rw [this.1]
  exact ⟨fun z => z.elim (fun z => nomatch z) id, .inr⟩
theorem used_nd {ts : List Tst} : (used ts).Nodup := (used_foldl (ts := ts) (l := [])).2.1 List.nodup_nil
theorem used_len {ts : List Tst} : (used ts).length ≤ 2 * ts.length := by
  have := (used_foldl (ts := ts) (l := [])).2.2
  rw [List.length_nil, Nat.zero_add] at this
  exact this
theorem names_mem {cs : List Cond} {x : Str} : x ∈ names cs ↔ x ≠ "" ∧ ∃ t ∈ tests cs, x = t.1 ∨ x = t.2.1 := by
  unfold names
  rw [(List.mergeSort_perm _ _).mem_iff]
  exact used_mem
theorem names_nd {cs : List Cond} : (names cs).Nodup := (List.mergeSort_perm _ _).symm.nodup used_nd
theorem tests_len (cs : List Cond) : (tests cs).length ≤ cs.length := List.length_filterMap_le _ _
theorem names_len {cs : List Cond} : (names cs).length ≤ 2 * cs.length := by
  unfold names
  rw [List.length_mergeSort]
  have := used_len (ts := tests cs)
  have := tests_len cs
  omega
theorem words_nd {cs : List Cond} : (words cs).Nodup := List.nodup_cons.mpr ⟨fun z => (names_mem.mp z).1 rfl, names_nd⟩
theorem words_test {cs : List Cond} {t : Tst} (h : t ∈ tests cs) : t.1 ∈ words cs ∧ t.2.1 ∈ words cs := by
  constructor
  · by_cases q : t.1 = ""
    · rw [q]; exact List.mem_cons_self
    · exact List.mem_cons_of_mem _ (names_mem.mpr ⟨q, t, h, .inl rfl⟩)
  · by_cases q : t.2.1 = ""
    · rw [q]; exact List.mem_cons_self
    · exact List.mem_cons_of_mem _ (names_mem.mpr ⟨q, t, h, .inr rfl⟩)
theorem tests_mem {cs : List Cond} {t : Tst} : t ∈ tests cs ↔ Cond.most t ∈ cs := by
  unfold tests
  rw [List.mem_filterMap]
  constructor
  · rintro ⟨c, hc, e⟩
    cases c with
    | lacks n => cases e
    | most s => cases e; exact hc
  · intro h; exact ⟨_, h, rfl⟩
theorem lacked_mem {cs : List Cond} {n : Str} : n ∈ lacked cs ↔ Cond.lacks n ∈ cs := by
  unfold lacked
  rw [List.mem_filterMap]
  constructor
  · rintro ⟨c, hc, e⟩
    cases c with
    | most s => cases e
    | lacks n => cases e; exact hc
  · intro h; exact ⟨_, h, rfl⟩
theorem names_ok {cs : List Cond} (h : ∀ c ∈ cs, CondOk c) : ∀ w ∈ names cs, strOk w = true := fun w hw => by
  obtain ⟨_, t, ht, e⟩ := names_mem.mp hw
  have := h _ (tests_mem.mp ht)
  rcases e with e | e
  · rw [e]; exact this.1
  · rw [e]; exact this.2
/-! ### the pool and its numbers -/
def pool (ts : List Tst) (nm : List Str) : List Tst := nm.foldl (fun l n => l ++ [((n, ("" : Str), 9999) : Tst), (("" : Str), n, 0)]) ts
theorem pool_mem {t : Tst} {nm : List Str} : ∀ {ts : List Tst}, t ∈ pool ts nm ↔ t ∈ ts ∨ ∃ n ∈ nm, t = (n, ("" : Str), 9999) ∨ t = (("" : Str), n, 0) := by
  unfold pool
  induction nm with
  | nil => intro ts; exact ⟨.inl, fun z => z.elim id fun z => (by obtain ⟨n, h, _⟩ := z; cases h)⟩
  | cons n nm ih =>
    intro ts
    rw [List.foldl_cons, ih, List.mem_append, List.mem_cons, List.mem_singleton]
    constructor
    · rintro ((h | h | h) | ⟨k, hk, h⟩)
      · exact .inl h
      · exact .inr ⟨n, List.mem_cons_self, .inl h⟩
      · exact .inr ⟨n, List.mem_cons_self, .inr h⟩
      · exact .inr ⟨k, List.mem_cons_of_mem _ hk, h⟩
    · rintro (h | ⟨k, hk, h⟩)
      · exact .inl (.inl h)
      · rcases List.mem_cons.mp hk with e | hk
        · subst e
          exact .inl (.inr h)
        · exact .inr ⟨k, hk, h⟩
theorem pool_len {nm : List Str} : ∀ {ts : List Tst}, (pool ts nm).length = ts.length + 2 * nm.length := by
  unfold pool
  induction nm with
  | nil => intro ts; rfl
  | cons n nm ih => intro ts; rw [List.foldl_cons, ih, List.length_append, List.length_cons]; simp only [List.length_cons, List.length_nil]; omega
def addN (l : List Str) (w : Str) : List Str := if w ∈ l then l else l ++ [w]
def addN2 (l : List Str) (t : Tst) : List Str := addN (addN l t.1) t.2.1
def nums (ps : List Tst) : List Str := ps.foldl addN2 [""]
theorem addN_mem {l : List Str} {w x : Str} : x ∈ addN l w ↔ x ∈ l ∨ x = w := by
  unfold addN
  split
  · rename_i h
    exact ⟨.inl, fun z => z.elim id fun z => z ▸ h⟩
  · rw [List.mem_append, List.mem_singleton]
theorem addN_nd {l : List Str} {w : Str} (h : l.Nodup) : (addN l w).Nodup := by
  unfold addN
  split
  · exact h
  · rename_i q
    exact List.nodup_append.mpr ⟨h, by simp, fun a ha b hb e => by
      rw [List.mem_singleton] at hb
      exact q (by rw [← hb, ← e]; exact ha)⟩
theorem addN_len {l : List Str} {w : Str} : (addN l w).length ≤ l.length + 1 := by
  unfold addN
  split
  · omega
  · rw [List.length_append, List.length_singleton]; omega
theorem nums_foldl {ps : List Tst} : ∀ {l : List Str}, (∀ x, x ∈ ps.foldl addN2 l ↔ x ∈ l ∨ ∃ t ∈ ps, x = t.1 ∨ x = t.2.1) ∧ (l.Nodup → (ps.foldl addN2 l).Nodup) ∧ (ps.foldl addN2 l).length ≤ l.length + 2 * ps.length := by
  induction ps with
  | nil => exact fun {l} => ⟨fun x => ⟨.inl, fun z => z.elim id fun z => (by obtain ⟨t, h, _⟩ := z; cases h)⟩, id, by simp⟩
  | cons t ts ih =>
    intro l
    obtain ⟨h1, h2, h3⟩ := ih (l := addN2 l t)
    refine ⟨fun x => ?_, fun nd => h2 (addN_nd (addN_nd nd)), ?_⟩
    · rw [List.foldl_cons, h1]
      unfold addN2
      rw [addN_mem, addN_mem]
      constructor
      · rintro (((h | h) | h) | ⟨s, hs, h⟩)
        · exact .inl h
        · exact .inr ⟨t, List.mem_cons_self, .inl h⟩
        · exact .inr ⟨t, List.mem_cons_self, .inr h⟩
        · exact .inr ⟨s, List.mem_cons_of_mem _ hs, h⟩
      · rintro (h | ⟨s, hs, h⟩)
        · exact .inl (.inl (.inl h))
        · rcases List.mem_cons.mp hs with e | hs
          · subst e
            rcases h with h | h
            · exact .inl (.inl (.inr h))
            · exact .inl (.inr h)
          · exact .inr ⟨s, hs, h⟩
    · rw [List.foldl_cons, List.length_cons]
      have a := addN_len (l := l) (w := t.1)
      have b := addN_len (l := addN l t.1) (w := t.2.1)
      have c : (addN2 l t).length = (addN (addN l t.1) t.2.1).length := rfl
      omega
theorem nums_mem {ps : List Tst} {x : Str} : x ∈ nums ps ↔ x = "" ∨ ∃ t ∈ ps, x = t.1 ∨ x = t.2.1 := by
  unfold nums
  rw [(nums_foldl (ps := ps) (l := [""])).1, List.mem_singleton]
theorem nums_nd {ps : List Tst} : (nums ps).Nodup := (nums_foldl (ps := ps) (l := [""])).2.1 (by simp)
theorem nums_len {ps : List Tst} : (nums ps).length ≤ 1 + 2 * ps.length := (nums_foldl (ps := ps) (l := [""])).2.2
def tEd (nu : List Str) (t : Tst) : Ed := (nu.idxOf t.1, nu.idxOf t.2.1, t.2.2)
/-! ### least sums by prices -/
section
variable {ws : List Str} {ts pl : List Tst} {nu : List Str}
structure Pl (ws : List Str) (ts pl : List Tst) (nu : List Str) : Prop where
  w0 : ("" : Str) ∈ ws
  pw : ∀ t ∈ pl, t.1 ∈ ws ∧ t.2.1 ∈ ws ∧ clo ws ts t.1 t.2.1 ≤ t.2.2
  tp : ∀ t ∈ ts, t ∈ pl
  b1 : ∀ w ∈ ws, w ≠ "" → ((w, ("" : Str), 9999) : Tst) ∈ pl
  b2 : ∀ w ∈ ws, w ≠ "" → ((("" : Str), w, 0) : Tst) ∈ pl
  pn : ∀ t ∈ pl, t.1 ∈ nu ∧ t.2.1 ∈ nu
  nw : ∀ w ∈ nu, w ∈ ws
  wn : ∀ w ∈ ws, w ∈ nu
theorem ed_of {i u v : Nat} {c : Int} (e : (pl.map (tEd nu))[i]? = some ((u, v, c) : Ed)) : ∃ t ∈ pl, u = nu.idxOf t.1 ∧ v = nu.idxOf t.2.1 ∧ c = t.2.2 := by
  rw [List.getElem?_map] at e
  obtain ⟨t, h1, h2⟩ := Option.map_eq_some_iff.mp e
  cases h2
  exact ⟨t, List.mem_of_getElem? h1, rfl, rfl, rfl⟩
theorem ed_in {t : Tst} (h : t ∈ pl) : ∃ i : Nat, (pl.map (tEd nu))[i]? = some ((nu.idxOf t.1, nu.idxOf t.2.1, t.2.2) : Ed) := by
  obtain ⟨i, e⟩ := List.getElem?_of_mem h
  exact ⟨i, by rw [List.getElem?_map, e]; rfl⟩
theorem word_at {w : Str} (h : w ∈ nu) : nu.getD (nu.idxOf w) "" = w := by
  have := List.idxOf_lt_length_of_mem h
  rw [List.getD_eq_getElem?_getD, List.getElem?_eq_getElem this, Option.getD_some, List.getElem_idxOf]
theorem pl_wf (P : Pl ws ts pl nu) : Wf (pl.map (tEd nu)) nu.length := fun e he => by
  obtain ⟨t, ht, rfl⟩ := List.mem_map.mp he
  exact ⟨List.idxOf_lt_length_of_mem (P.pn t ht).1, List.idxOf_lt_length_of_mem (P.pn t ht).2⟩
theorem pl_stand (P : Pl ws ts pl nu) {ps : List Int} (S : Stand (pl.map (tEd nu)) nu.length ps) : neg ws (clo ws ts) = false ∧ ∀ w ∈ ws, pf ps (nu.idxOf w) = clo ws ts "" w := by
  have hf : ∀ t ∈ pl, pf ps (nu.idxOf t.2.1) ≤ pf ps (nu.idxOf t.1) + t.2.2 := fun t ht => by
    obtain ⟨i, e⟩ := ed_in (nu := nu) ht
    exact S.fe i _ _ _ e
  have hs : Sd ws (fun w => pf ps (nu.idxOf w)) (clo ws ts) := clo_sd (clo0_sd (g0_sd (fun w hw => by
      by_cases q : w = ""
      · rw [q]; exact Int.le_refl _
      · have := hf _ (P.b2 w hw q)
        show pf ps (nu.idxOf w) ≤ pf ps (nu.idxOf ("" : Str))
        simpa using this) fun w hw => by
      by_cases q : w = ""
      · rw [q]; omega
      · exact hf _ (P.b1 w hw q)) fun t ht => hf t (P.tp t ht))
  have hn := sd_neg hs
  refine ⟨hn, fun w hw => ?_⟩
  have tri := clo_tri hn
  have walk : ∀ (is : List Nat) (s v : Nat), nu.getD s "" ∈ ws → Wk (pl.map (tEd nu)) s is v → nu.getD v "" ∈ ws ∧ clo ws ts (nu.getD s "") (nu.getD v "") ≤ sm (pl.map (tEd nu)) is := by
    intro is
    induction is with
    | nil =>
      intro s v h e
      have e : s = v := e
      subst e
      exact ⟨h, clo_self _⟩
    | cons i is ih =>
      intro s v h ⟨m, c, e, hw⟩
      obtain ⟨t, ht, e1, e2, e3⟩ := ed_of e
      have hm : nu.getD m "" = t.2.1 := by rw [e2]; exact word_at (P.pn t ht).2
      have hs : nu.getD s "" = t.1 := by rw [e1]; exact word_at (P.pn t ht).1
      obtain ⟨h1, h2⟩ := ih m v (by rw [hm]; exact (P.pw t ht).2.1) hw
      refine ⟨h1, ?_⟩
      have h3 := tri _ (P.pw t ht).2.1 _ h _ h1
      have h4 := (P.pw t ht).2.2
      rw [hm] at h2
      have h5 : sm (pl.map (tEd nu)) (i :: is) = c + sm (pl.map (tEd nu)) is := by
        show cst (pl.map (tEd nu)) i + _ = _
        rw [cst_at e]
      rw [hs] at h3 ⊢
      omega
  have hwn := P.wn w hw
  obtain ⟨s, is, h1, h2⟩ := S.at_.wk (nu.idxOf w) (List.idxOf_lt_length_of_mem hwn)
  have hsw : nu.getD s "" ∈ ws := by
    rw [List.getD_eq_getElem?_getD]
    cases q : nu[s]? with
    | none => exact P.w0
    | some y => exact P.nw y (List.mem_of_getElem? q)
  have h3 := (walk is s _ hsw h1).2
  rw [word_at hwn, h2] at h3
  have h4 := tri _ hsw "" P.w0 w hw
  have h5 := clo_from (ws := ws) (ts := ts) (nu.getD s "")
  have h6 : pf ps (nu.idxOf w) ≤ pf ps (nu.idxOf ("" : Str)) + clo ws ts "" w := hs "" P.w0 w hw
  have h7 := S.at_.le (nu.idxOf ("" : Str))
  omega
theorem pl_cn (P : Pl ws ts pl nu) {k : Nat} (h : CN (pl.map (tEd nu)) k) : neg ws (clo ws ts) = true := by
  cases q : neg ws (clo ws ts) with
  | true => rfl
  | false =>
    have tri := clo_tri q
    refine absurd h (feas_no (p := fun i => clo ws ts "" (nu.getD i "")) (fun i u v c e => ?_) k)
    obtain ⟨t, ht, e1, e2, e3⟩ := ed_of e
    subst e1
    subst e2
    subst e3
    show clo ws ts "" (nu.getD (nu.idxOf t.2.1) "") ≤ clo ws ts "" (nu.getD (nu.idxOf t.1) "") + t.2.2
    rw [word_at (P.pn t ht).1, word_at (P.pn t ht).2]
    have h1 := tri _ (P.pw t ht).1 "" P.w0 _ (P.pw t ht).2.1
    have h2 := (P.pw t ht).2.2
    omega
end
def poolC (cs : List Cond) : List Tst := pool (tests cs) (names cs)
theorem plC (cs : List Cond) : Pl (words cs) (tests cs) (poolC cs) (nums (poolC cs)) where
  w0 := List.mem_cons_self
  pw := fun t ht => by
    rcases pool_mem.mp ht with h | ⟨n, hn, h | h⟩
    · exact ⟨(words_test h).1, (words_test h).2, clo_test h⟩
    · subst h
      exact ⟨List.mem_cons_of_mem _ hn, List.mem_cons_self, clo_to n⟩
    · subst h
      exact ⟨List.mem_cons_self, List.mem_cons_of_mem _ hn, clo_from n⟩
  tp := fun t ht => pool_mem.mpr (.inl ht)
  b1 := fun w hw q => pool_mem.mpr (.inr ⟨w, (List.mem_cons.mp hw).resolve_left q, .inl rfl⟩)
  b2 := fun w hw q => pool_mem.mpr (.inr ⟨w, (List.mem_cons.mp hw).resolve_left q, .inr rfl⟩)
  pn := fun t ht => ⟨nums_mem.mpr (.inr ⟨t, ht, .inl rfl⟩), nums_mem.mpr (.inr ⟨t, ht, .inr rfl⟩)⟩
  nw := fun w hw => by
    rcases nums_mem.mp hw with h | ⟨t, ht, h⟩
    · rw [h]; exact List.mem_cons_self
    · have : t.1 ∈ words cs ∧ t.2.1 ∈ words cs := by
        rcases pool_mem.mp ht with h | ⟨n, hn, h | h⟩
        · exact words_test h
        · subst h
          exact ⟨List.mem_cons_of_mem _ hn, List.mem_cons_self⟩
        · subst h
          exact ⟨List.mem_cons_self, List.mem_cons_of_mem _ hn⟩
      rcases h with h | h
      · rw [h]; exact this.1
      · rw [h]; exact this.2
  wn := fun w hw => by
    rcases List.mem_cons.mp hw with h | h
    · exact nums_mem.mpr (.inl h)
    · exact nums_mem.mpr (.inr ⟨(w, ("" : Str), 9999), pool_mem.mpr (.inr ⟨w, h, .inl rfl⟩), .inl rfl⟩)
end GK.N7

namespace GK
open PySem PySem.Spec PyProof.Rows L2
open N2 N7
def tsD (t : Tst) : D := .tup [.str "most", .str t.1, .str t.2.1, .int t.2.2]
def lkD (n : Str) : D := .tup [.str "lacks", .str n]
def cnD : Cond → D
  | .most t => tsD t
  | .lacks n => lkD n
structure CsOk (cs : List Cond) : Prop where
  len : cs.length ≤ 10
  ok : ∀ c ∈ cs, CondOk c
theorem cn_most {t : Tst} : cnD (.most t) = tsD t := rfl
theorem cn_lack {n : Str} : cnD (.lacks n) = lkD n := rfl
theorem d_lm : decide (("lacks" : Str) = "most") = false := by decide
theorem d_ml : decide (("most" : Str) = "lacks") = false := by decide
section
variable {t : Tst} {n : Str} {R : D → Prop}
theorem ts_0 : gIx (tsD t) (.int 0) R = R (.str "most") := gIx_t0
theorem ts_1 : gIx (tsD t) (.int 1) R = R (.str t.1) := gIx_t1
theorem ts_2 : gIx (tsD t) (.int 2) R = R (.str t.2.1) := gIx_t2
theorem ts_3 : gIx (tsD t) (.int 3) R = R (.int t.2.2) := by
  show (∃ d, atI [D.str "most", D.str t.1, D.str t.2.1, D.int t.2.2] 3 = some d ∧ R d) = R _
  have : atI [D.str "most", D.str t.1, D.str t.2.1, D.int t.2.2] 3 = some (D.int t.2.2) := by
    unfold atI ixN
    rw [if_pos (by decide), if_pos (by simp)]; rfl
  rw [this]; exact ex_some
theorem lk_0 : gIx (lkD n) (.int 0) R = R (.str "lacks") := gIx_t0
theorem lk_1 : gIx (lkD n) (.int 1) R = R (.str n) := gIx_t1
theorem sl_ts : gSlTp (tsD t) (some 1) (some 3) R = R (.tup [.str t.1, .str t.2.1]) := by
  apply propext
  exact ⟨fun h => h.2, fun h => ⟨(by decide : ¬ (HT.sIx 4 0 (some 1) = 0 ∧ HT.sIx 4 4 (some 3) = 4)), h⟩⟩
theorem sl_lk : gSlTp (lkD n) (some 1) (some 3) R = R (.tup [.str n]) := by
  apply propext
  exact ⟨fun h => h.2, fun h => ⟨(by decide : ¬ (HT.sIx 2 0 (some 1) = 0 ∧ HT.sIx 2 2 (some 3) = 2)), h⟩⟩
end
theorem seqOf_go {d : D} {xs : List D} {R : List D → Prop} (s : isSeq d xs) (q : R xs) : seqOf R d := by
  rcases s with rfl | rfl <;> exact q
theorem flat_strs (ws : List Str) : flatN 1 (.lst (ws.map .str)) = true := by
  show ((ws.map D.str).all fun d => flatN 0 d) = true
  rw [List.all_eq_true]
  intro d hd
  obtain ⟨w, _, rfl⟩ := List.mem_map.mp hd
  rfl
theorem any_strs {x : Str} : ∀ {ys : List Str}, ((ys.map D.str).any fun z => eqF z (.str x)) = decide (x ∈ ys)
  | [] => by simp
  | y :: ys => by
    rw [List.map_cons, List.any_cons, any_strs (ys := ys)]
    have : eqF (.str y) (.str x) = decide (y = x) := rfl
    rw [this]
    by_cases h : y = x
    · simp [h]
    · have h' : ¬ x = y := fun z => h z.symm
      simp [h, h']
theorem gIn_strs {b : Bool} {x : Str} {ys : List Str} {R : D → Prop} (q : R (.bl (b ^^ decide (x ∈ ys)))) : gIn b (.str x) (.lst (ys.map .str)) R := by
  refine ⟨_, rfl, rfl, all_str ys, ?_⟩
  rw [any_strs]
  exact q
/-! the table of numbers -/
theorem idx_zip : ∀ {l : List Str} {w : Str} {k : Nat}, gA (l.zipIdx k) w = if w ∈ l then some (k + l.idxOf w) else none
  | [], w, k => rfl
  | x :: l, w, k => by
    rw [List.zipIdx_cons, gA_cons, idx_zip]
    by_cases h : x = w
    · subst h
      rw [if_pos rfl, if_pos List.mem_cons_self, List.idxOf_cons_self]; rfl
    · have h' : ¬ w = x := fun z => h z.symm
      have e0 : (x == w) = false := by simpa using h
      have e1 : (x :: l).idxOf w = l.idxOf w + 1 := by rw [List.idxOf_cons, e0]; rfl
      rw [if_neg h, e1]
      by_cases q : w ∈ l
      · rw [if_pos q, if_pos (List.mem_cons_of_mem _ q)]
        congr 1; omega
      · rw [if_neg q, if_neg (fun z => (List.mem_cons.mp z).elim h' q)]
theorem zip_keys {l : List Str} {k : Nat} : (l.zipIdx k).map (·.1) = l := by
  rw [List.zipIdx_map_fst]
theorem zip_snoc {l : List Str} {w : Str} (h : w ∉ l) : iA l.zipIdx w l.length = (l ++ [w]).zipIdx := by
  rw [iA_new (by rw [zip_keys]; exact h), List.zipIdx_append]
  simp
/-! closing, as data -/
def prs (ws : List Str) : List (Str × Str) := ws.flatMap fun x => ws.map fun y => (x, y)
def tabG (ws : List Str) (g : Sm) : List ((Str × Str) × Int) := (prs ws).map fun p => (p, g p.1 p.2)
def smD (ws : List Str) (g : Sm) : D := pT .int (tabG ws g)
theorem prs_mem {ws : List Str} {x y : Str} : (x, y) ∈ prs ws ↔ x ∈ ws ∧ y ∈ ws := by
  unfold prs
  rw [List.mem_flatMap]
  constructor
  · rintro ⟨a, ha, h⟩
    obtain ⟨b, hb, e⟩ := List.mem_map.mp h
    cases e
    exact ⟨ha, hb⟩
  · rintro ⟨h1, h2⟩
    exact ⟨x, h1, List.mem_map.mpr ⟨y, h2, rfl⟩⟩
theorem tab_keys {ws : List Str} {g : Sm} : (tabG ws g).map (·.1) = prs ws := by
  unfold tabG
  rw [List.map_map]
  exact List.map_id _
theorem prs_len {ws : List Str} : (prs ws).length = ws.length * ws.length := by
  unfold prs
  rw [List.length_flatMap]
  simp only [List.length_map]
  rw [List.map_const']
  simp
theorem gA_map {g : Sm} {p : Str × Str} : ∀ {l : List (Str × Str)}, p ∈ l → gA (l.map fun p => (p, g p.1 p.2)) p = some (g p.1 p.2)
  | [], h => nomatch h
  | q :: l, h => by
    rw [List.map_cons, gA_cons]
    by_cases e : q = p
    · rw [if_pos e, e]
    · rw [if_neg e]
      exact gA_map ((List.mem_cons.mp h).resolve_left fun z => e z.symm)
theorem gA_tab {ws : List Str} {g : Sm} {x y : Str} (hx : x ∈ ws) (hy : y ∈ ws) : gA (tabG ws g) (x, y) = some (g x y) := gA_map (prs_mem.mpr ⟨hx, hy⟩)
theorem iA_tab {ws : List Str} {g : Sm} {x y : Str} {v : Int} (hx : x ∈ ws) (hy : y ∈ ws) : iA (tabG ws g) (x, y) v = tabG ws (up g x y v) := by
  unfold iA
  rw [if_pos (any_keyA.mpr (by rw [tab_keys]; exact prs_mem.mpr ⟨hx, hy⟩))]
  unfold tabG
  rw [List.map_map]
  refine List.map_congr_left fun p _ => ?_
  show (if p = (x, y) then (p, v) else (p, g p.1 p.2)) = (p, up g x y v p.1 p.2)
  unfold up
  by_cases h : p = (x, y)
  · rw [if_pos h, if_pos (by rw [h]; exact ⟨rfl, rfl⟩)]
  · rw [if_neg h, if_neg (fun z => h (Prod.ext z.1 z.2))]
theorem smget_go {ws : List Str} {g : Sm} {x y : Str} {R : D → Prop} (hx : x ∈ ws) (hy : y ∈ ws) (q : R (.int (g x y))) : gDGet (smD ws g) (.tup [.str x, .str y]) R := pget_go (p := (x, y)) (gA_tab hx hy) q
theorem keysT2 {x y : Str} : keyT (.tup [.str x, .str y]) = some [(Sum.inr x : Key), .inr y] := rfl
theorem smput_go {ws : List Str} {g : Sm} {x y : Str} {v : Int} {ρ : Env} {i : Nat} {N : Env → Prop} (hx : x ∈ ws) (hy : y ∈ ws) (hl : ws.length ≤ 100) (e : slot ρ i = some (1, smD ws g)) (q : N (ρ.set i (some (1, smD ws (up g x y v))))) :
    ∃ k, keyT (.tup [.str x, .str y]) = some k ∧ ownDT ρ i 0 fun ds => ds.length < sizeLine ∧ N (ρ.set i (some (1, .dT (putD ds k (.int v))))) :=
  ⟨_, rfl, pput_go (p := (x, y)) e (by
    unfold tabG
    rw [List.length_map, prs_len, szL]
    have := Nat.mul_le_mul hl hl
    omega) (by rw [iA_tab hx hy]; exact q)⟩
/-! the table of sums while it is laid -/
def rowG (x : Str) (ys : List Str) : List ((Str × Str) × Int) := ys.map fun y => ((x, y), g0 x y)
def partG (ws xs : List Str) : List ((Str × Str) × Int) := xs.flatMap fun x => rowG x ws
theorem partG_all {ws : List Str} : partG ws ws = tabG ws g0 := by
  unfold partG tabG prs rowG
  rw [List.map_flatMap]
  congr 1
  funext x
  rw [List.map_map]
  rfl
theorem partG_snoc {ws xs : List Str} {x : Str} : partG ws (xs ++ [x]) = partG ws xs ++ rowG x ws := by
  unfold partG
  rw [List.flatMap_append]; simp
theorem lay_key {ws xs ys : List Str} {x y : Str} (hx : x ∉ xs) (hy : y ∉ ys) : (x, y) ∉ (partG ws xs ++ rowG x ys).map (·.1) := fun h => by
  rw [List.map_append] at h
  rcases List.mem_append.mp h with h | h
  · obtain ⟨e, he, q⟩ := List.mem_map.mp h
    obtain ⟨a, ha, he⟩ := List.mem_flatMap.mp he
    obtain ⟨b, hb, rfl⟩ := List.mem_map.mp he
    cases q
    exact hx ha
  · obtain ⟨e, he, q⟩ := List.mem_map.mp h
    obtain ⟨b, hb, rfl⟩ := List.mem_map.mp he
    cases q
    exact hy hb
theorem lay_len {ws xs ys : List Str} {x : Str} (h1 : ws.length ≤ 100) (h2 : xs.length ≤ 100) (h3 : ys.length ≤ 100) : (partG ws xs ++ rowG x ys).length + 2 < sizeLine := by
  unfold partG rowG
  rw [List.length_append, List.length_flatMap, szL]
  simp only [List.length_map]
  have : (xs.map fun _ => ws.length).sum = xs.length * ws.length := by
    rw [List.map_const']
    simp
  rw [this]
  have := Nat.mul_le_mul h2 h1
  omega
theorem lay_put {ws xs ys : List Str} {x y : Str} {v w : Int} (hx : x ∉ xs) (hy : y ∉ ys) : iA ((partG ws xs ++ rowG x ys) ++ [((x, y), v)]) (x, y) w = (partG ws xs ++ rowG x ys) ++ [((x, y), w)] := by
  have h := lay_key (ws := ws) hx hy
  unfold iA
  rw [if_pos (any_keyA.mpr (by rw [List.map_append]; exact List.mem_append.mpr (.inr List.mem_cons_self))), List.map_append]
  congr 1
  · refine (List.map_congr_left (g := id) fun e he => ?_).trans (List.map_id _)
    exact if_neg fun z => h (by rw [← z]; exact List.mem_map.mpr ⟨e, he, rfl⟩)
  · show [if (x, y) = (x, y) then ((x, y), w) else _] = _
    rw [if_pos rfl]
theorem row_snoc {x y : Str} {ys : List Str} : rowG x (ys ++ [y]) = rowG x ys ++ [((x, y), g0 x y)] := by
  unfold rowG; rw [List.map_append]; rfl
end GK

namespace GK
open PySem PySem.Spec PyProof.Rows L2
open N2
/-! ### graphs as data -/
def edD (e : Ed) : D := .tup [natD e.1, natD e.2.1, .int e.2.2]
def edsD (es : List Ed) : List D := es.map edD
def optD : Option Nat → D
  | none => .non
  | some i => natD i
theorem edsD_get {es : List Ed} {i : Nat} {e : Ed} (h : es[i]? = some e) : (edsD es)[i]? = some (edD e) := by unfold edsD; rw [List.getElem?_map, h]; rfl
structure LaOk (es : List Ed) (n : Nat) (la : List (Option Nat)) : Prop where
  wf : Wf es n
  ll : la.length = n
  n0 : n ≤ 100
  it : ∀ v i, v < n → lf la v = some i → ∃ u c, es[i]? = some (u, v, c)
theorem N2.Inv.la {es : List Ed} {n : Nat} {ps : List Int} {la : List (Option Nat)} (I : Inv es n ps la) (w : Wf es n) (h : n ≤ 100) : LaOk es n la := ⟨w, I.ll, h, fun v i hv e => let ⟨u, c, q, _⟩ := I.i1 v i hv e; ⟨u, c, q⟩⟩
theorem la_get {la : List (Option Nat)} {v : Nat} (h : v < la.length) : (la.map optD)[v]? = some (optD (lf la v)) := by
  rw [List.getElem?_map, List.getElem?_eq_getElem h]
  unfold lf
  rw [List.getD_eq_getElem?_getD, List.getElem?_eq_getElem h]; rfl
theorem ps_get {ps : List Int} {v : Nat} (h : v < ps.length) : (ps.map D.int)[v]? = some (.int (pf ps v)) := by
  rw [List.getElem?_map, List.getElem?_eq_getElem h]
  unfold pf
  rw [List.getD_eq_getElem?_getD, List.getElem?_eq_getElem h]; rfl
end GK
namespace GK
open PySem PySem.Spec PyProof.Rows L2
open N2
/-! ### tables by node as data -/
def kvN {β : Type} (f : β → D) (e : Nat × β) : Key × D := (.inl (e.1 : Int), f e.2)
def nT {β : Type} (f : β → D) (l : List (Nat × β)) : D := .dK (l.map (kvN f))
section
variable {β : Type} {f : β → D} {l : List (Nat × β)} {k : Nat} {v : β}
theorem key_ne {a b : Nat} : ((Sum.inl (a : Int) : Key) = Sum.inl (b : Int)) ↔ a = b := ⟨fun h => Int.ofNat.inj (Sum.inl.inj h), fun h => by rw [h]⟩
theorem putD_nat : putD (l.map (kvN f)) (Sum.inl (k : Int) : Key) (f v) = (ins l k v).map (kvN f) := by
  unfold putD ins
  have e1 : ((l.map (kvN f)).any fun e => decide (e.1 = (Sum.inl (k : Int) : Key))) = l.any fun e => decide (e.1 = k) := by
    rw [List.any_map]
    congr 1
    funext e
    show decide ((Sum.inl (e.1 : Int) : Key) = Sum.inl (k : Int)) = decide (e.1 = k)
    by_cases h : e.1 = k
    · rw [decide_eq_true h, decide_eq_true (key_ne.mpr h)]
    · rw [decide_eq_false h, decide_eq_false (fun z => h (key_ne.mp z))]
  rw [e1]
  by_cases c : (l.any fun e => decide (e.1 = k)) = true
  · rw [if_pos c, if_pos c, List.map_map, List.map_map]
    refine List.map_congr_left fun e _ => ?_
    show (if (Sum.inl (e.1 : Int) : Key) = Sum.inl (k : Int) then ((Sum.inl (e.1 : Int) : Key), f v) else kvN f e) = kvN f (if e.1 = k then (e.1, v) else e)
    by_cases h : e.1 = k
    · rw [if_pos (key_ne.mpr h), if_pos h]; rfl
    · rw [if_neg (fun z => h (key_ne.mp z)), if_neg h]
  · rw [if_neg c, if_neg c, List.map_append]; rfl
theorem getD_nat : getD' (l.map (kvN f)) (Sum.inl (k : Int) : Key) = (gt l k).map f := by
  unfold getD'
  induction l with
  | nil => rfl
  | cons e l ih =>
    rw [List.map_cons, List.find?_cons, gt_cons]
    by_cases h : e.1 = k
    · rw [if_pos h]
      have : decide ((kvN f e).1 = (Sum.inl (k : Int) : Key)) = true := decide_eq_true (key_ne.mpr h)
      rw [this]; rfl
    · rw [if_neg h]
      have : decide ((kvN f e).1 = (Sum.inl (k : Int) : Key)) = false := decide_eq_false (fun z => h (key_ne.mp z))
      rw [this]
      exact ih
theorem lookD_nat : lookD (nT f l) (natD k) = some ((gt l k).map f) := by
  show (keyOf (natD k)).map (getD' (l.map (kvN f))) = _
  show some (getD' (l.map (kvN f)) (Sum.inl (k : Int) : Key)) = _
  rw [getD_nat]
theorem dget_go {R : D → Prop} (h : gt l k = some v) (q : R (f v)) : gDGet (nT f l) (natD k) R := ⟨f v, by rw [lookD_nat, h]; rfl, q⟩
theorem din_go {b : Bool} {R : D → Prop} (q : R (.bl (b ^^ (gt l k).isSome))) : gDIn b (natD k) (nT f l) R := ⟨(gt l k).map f, lookD_nat, by rw [Option.isSome_map]; exact q⟩
theorem dget1_go {R : D → Prop} (q : R (((gt l k).map f).getD .non)) : gDGet1 (nT f l) (natD k) R := ⟨_, lookD_nat, q⟩
theorem dget2_go {x : D} {R : D → Prop} (q : R (((gt l k).map f).getD x)) : gDGet2 (nT f l) (natD k) x R := ⟨_, lookD_nat, q⟩
end
structure GOk (es : List Ed) (n : Nat) : Prop where
  wf : Wf es n
  n0 : n ≤ 100
  le : es.length ≤ 200
def trD (q : Nat × Nat × Int) : D := .tup [natD q.1, natD q.2.1, .int q.2.2]
def lvI (l : List (Nat × Nat × Int)) : D := .lst (l.map trD)
def lvD (lv : Lv) : D := .lst (lv.map lvI)
def pvD (q : Int × Option Nat) : D := .tup [.int q.1, optD q.2]
abbrev layD (l : Lay) : D := nT pvD l
abbrev rowD (l : List (Nat × Int)) : D := nT D.int l
abbrev seenD (l : List (Nat × Nat)) : D := nT natD l
structure GrOk (n : Nat) (es : List Ed) (st : List Nat) : Prop where
  g : GOk es n
  nd : st.Nodup
  sn : ∀ s ∈ st, s < n
  hit : Hit es n st
def graphD (n : Nat) (es : List Ed) (st : List Nat) : D := .tup [natD n, .lst (edsD es), .lst (st.map natD)]
def prD (e : Nat × Nat) : D := .tup [natD e.1, natD e.2]
end GK
namespace GK
open PySem PySem.Spec PyProof.Rows L2
open N2
theorem ownDK_nT {β : Type} {f : β → D} {l : List (Nat × β)} {ρ : Env} {i n : Nat} {k : List (Key × D) → Prop} (e : slot ρ i = some (n + 1, nT f l)) (q : k (l.map (kvN f))) : ownDK ρ i n k := by
  unfold ownDK
  rw [e]
  exact ⟨rfl, q⟩
theorem putK_go {β : Type} {f : β → D} {l : List (Nat × β)} {ρ : Env} {i k : Nat} {v : β} {N : Env → Prop} (e : slot ρ i = some (1, nT f l)) (hl : l.length < sizeLine) (q : N (ρ.set i (some (1, nT f (ins l k v))))) :
    ownDK ρ i 0 fun ds => ds.length < sizeLine ∧ N (ρ.set i (some (1, .dK (putD ds (Sum.inl (k : Int) : Key) (f v))))) :=
  ownDK_nT e ⟨by rw [List.length_map]; exact hl, by rw [putD_nat]; exact q⟩
end GK
namespace GK
open PySem PySem.Spec PyProof.Rows L2
open N2
theorem rep_go {x : D} {n : Nat} {R : D → Prop} (h : n ≤ sizeLine) (q : R (.lst (List.replicate n x))) : gRep (.lst [x]) (.int (n : Int)) R := by
  rw [szL] at h
  refine ⟨by omega, by omega, by rw [List.length_singleton, Int.toNat_natCast, szL]; omega, ?_⟩
  rw [Int.toNat_natCast, List.flatten_replicate_singleton]
  exact q
theorem keys_nT {β : Type} {f : β → D} : ∀ {l : List (Nat × β)}, keysD (nT f l) = some ((l.map (·.1)).map natD) := by
  intro l
  show some ((l.map (kvN f)).map fun e => keyD e.1) = _
  rw [List.map_map, List.map_map]
  rfl
theorem en_drop {es : List Ed} {i : Nat} {x : D} {r : List D} (h : x :: r = (enumL (edsD es)).drop i) : ∃ e, es[i]? = some e ∧ x = .tup [natD i, edD e] ∧ r = (enumL (edsD es)).drop (i + 1) := by
  have hi : i < (enumL (edsD es)).length := by
    have := congrArg List.length h
    rw [List.length_drop, List.length_cons] at this
    omega
  have hi2 : i < es.length := by rw [enumL_len] at hi; unfold edsD at hi; rwa [List.length_map] at hi
  have he : es[i]? = some es[i] := List.getElem?_eq_getElem hi2
  have hx := enumL_get (edsD_get he)
  rw [List.drop_eq_getElem_cons hi] at h
  injection h with h1 h2
  rw [List.getElem?_eq_getElem hi] at hx
  exact ⟨es[i], he, h1.trans (Option.some.inj hx), h2⟩
theorem en_end {es : List Ed} {i : Nat} (h : [] = (enumL (edsD es)).drop i) : es.length ≤ i := by
  have := congrArg List.length h
  rw [List.length_drop, enumL_len, List.length_nil] at this
  unfold edsD at this
  rw [List.length_map] at this
  omega
theorem no_cn0 {es : List Ed} (w : Wf es 0) (k : Nat) : ¬ CN es k := by
  rintro ⟨s, is, _, h, hw, _⟩
  cases is with
  | nil => exact h rfl
  | cons i is =>
    obtain ⟨m, c, e, _⟩ := hw
    have := (w.at e).1
    omega
theorem flat_nats (is : List Nat) : flatN 1 (.lst (is.map natD)) = true := by
  show (is.map natD).all (flatN 0) = true
  rw [List.all_eq_true]
  intro d hd
  obtain ⟨i, _, rfl⟩ := List.mem_map.mp hd
  rfl
end GK
namespace GK
open PySem PySem.Spec PyProof.Rows L2
open N2
theorem lv_get {lv : Lv} {v : Nat} (h : v < lv.length) : (lv.map lvI)[v]? = some (lvI (lv.getD v [])) := by
  rw [List.getElem?_map, List.getElem?_eq_getElem h]
  rw [List.getD_eq_getElem?_getD, List.getElem?_eq_getElem h]; rfl
theorem nT_ins {β : Type} {f : β → D} {l : List (Nat × β)} {k : Nat} {v : β} : nT f (ins l k v) = .dK (putD (l.map (kvN f)) (Sum.inl (k : Int) : Key) (f v)) := congrArg D.dK putD_nat.symm
theorem flat_lay (l : Lay) : flatN 1 (layD l) = true := by
  show (l.map (kvN pvD)).all (fun e => flatN 0 e.2) = true
  rw [List.all_eq_true]
  intro d hd
  obtain ⟨e, _, rfl⟩ := List.mem_map.mp hd
  obtain ⟨k, t, o⟩ := e
  cases o <;> rfl
end GK
namespace GK
open PySem PySem.Spec PyProof.Rows L2
open N2
def layersD (lv : Lv) (n s : Nat) : Nat → List D
  | 0 => [layD (lev lv n s 0).1]
  | k + 1 => layersD lv n s k ++ [layD (lev lv n s (k + 1)).1]
theorem layersD_len {lv : Lv} {n s : Nat} : ∀ k, (layersD lv n s k).length = k + 1
  | 0 => rfl
  | k + 1 => by
    show (layersD lv n s k ++ [_]).length = _
    rw [List.length_append, layersD_len k]; rfl
theorem layersD_get {lv : Lv} {n s : Nat} : ∀ {k j : Nat}, j ≤ k → (layersD lv n s k)[j]? = some (layD (lev lv n s j).1)
  | 0, j, h => by
    have : j = 0 := by omega
    subst this; rfl
  | k + 1, j, h => by
    show (layersD lv n s k ++ [_])[j]? = _
    by_cases q : j ≤ k
    · rw [List.getElem?_append_left (by rw [layersD_len]; omega)]
      exact layersD_get q
    · have : j = k + 1 := by omega
      subst this
      rw [List.getElem?_append_right (by rw [layersD_len]; omega), layersD_len, Nat.sub_self]
      rfl
theorem rep_ints (n : Nat) : List.replicate n (D.int 0) = (List.replicate n (0 : Int)).map D.int := by rw [List.map_replicate]
theorem updB_cons {b : List Int} {e : Nat × Int × Option Nat} {l : Lay} : updB b (e :: l) = updB (b.set e.1 e.2.1) l := rfl
theorem gIxN_nat {ds : List D} {k : Nat} {d : D} {i : Int} {R : D → Prop} (e : i = (k : Int)) (h : ds[k]? = some d) (q : R d) : gIx (.lst ds) (.int i) R := by
  subst e
  exact gIx_nat h q
end GK
namespace GK
open PySem PySem.Spec PyProof.Rows L2
open N2
def insN {α : Type} (l : List α) (j : Nat) (x : α) : List α := l.take j ++ [x] ++ l.drop j
theorem insD_map {α : Type} {f : α → D} {l : List α} {j : Nat} {x : α} : insD (l.map f) j (f x) = (insN l j x).map f := by
  unfold insD insN
  rw [List.map_append, List.map_append, List.map_take, List.map_drop]; rfl
theorem insN_len {α : Type} {l : List α} {j : Nat} {x : α} : (insN l j x).length = l.length + 1 := by
  unfold insN
  rw [List.length_append, List.length_append, List.length_take, List.length_drop, List.length_singleton]
  omega
theorem insN_mem {α : Type} {l : List α} {j : Nat} {x y : α} (h : y ∈ insN l j x) : y = x ∨ y ∈ l := by
  unfold insN at h
  rcases List.mem_append.mp h with z | z
  · rcases List.mem_append.mp z with w | w
    · exact .inr (List.mem_of_mem_take w)
    · exact .inl (List.mem_singleton.mp w)
  · exact .inr (List.mem_of_mem_drop z)
theorem insE {es : List Ed} {j u v : Nat} {c : Int} : insD (edsD es) j (.tup [natD u, natD v, .int c]) = edsD (insN es j (u, v, c)) := insD_map (f := edD) (x := (u, v, c))
theorem prev_get {os : List Nat} {k : Nat} (h : k < os.length) : ∃ t, t ∈ os ∧ atI (os.map natD) ((k : Int) - 1) = some (natD t) := by
  unfold atI
  rw [List.length_map]
  cases k with
  | zero =>
    have e1 : ixN os.length (((0 : Nat) : Int) - 1) = some (os.length - 1) := by
      unfold ixN
      rw [if_neg (by omega), if_pos (by omega)]
      congr 1
      omega
    rw [e1]
    refine ⟨os[os.length - 1], List.getElem_mem _, ?_⟩
    show (os.map natD)[os.length - 1]? = _
    rw [List.getElem?_map, List.getElem?_eq_getElem (by omega)]; rfl
  | succ k =>
    have e1 : ixN os.length (((k + 1 : Nat) : Int) - 1) = some k := by
      rw [show ((k + 1 : Nat) : Int) - 1 = (k : Int) by omega]
      exact ixN_nat (by omega)
    rw [e1]
    refine ⟨os[k], List.getElem_mem _, ?_⟩
    show (os.map natD)[k]? = _
    rw [List.getElem?_map, List.getElem?_eq_getElem (by omega)]; rfl
end GK
namespace GK
open PySem PySem.Spec PyProof.Rows L2
open N2
theorem ok_eds (es : List Ed) : okD 60 (.lst (edsD es)) = true := by
  rw [okD]
  refine okDs_all fun d hd => ?_
  obtain ⟨e, _, rfl⟩ := List.mem_map.mp hd
  rfl
theorem cn_loop {es : List Ed} {v j : Nat} : CN (insN es j (v, v, -1)) 1 := by
  obtain ⟨i, hi⟩ : ∃ i, (insN es j (v, v, -1))[i]? = some (v, v, (-1 : Int)) := List.mem_iff_getElem?.mp (by unfold insN; simp)
  exact ⟨v, [i], rfl, by simp, ⟨v, -1, hi, rfl⟩, by rw [sm_one, cst_at hi]; decide⟩
theorem few_loop {es : List Ed} {v j : Nat} : FewOk (insN es j (v, v, -1)) 1 := .inr ⟨by decide, cn_loop, fun k hk c => by
  obtain ⟨s, is, h1, h2, _⟩ := c
  exact h2 (List.length_eq_zero_iff.mp (by omega))⟩
end GK

namespace GK
open PySem PySem.Spec PyProof.Rows L2
open N2 N7
section
variable {β : Type} {f : β → D} {l : List (Str × β)} {k : Str} {v : β} {m : List ((Str × Str) × β)} {p : Str × Str}
theorem putDD_sT (h : l.length < sizeLine) : putDD (sT f l) (.str k) (f v) = some (sT f (iA l k v)) := by
  have hl : (l.map (kvA qS f)).length < sizeLine := by rw [List.length_map]; exact h
  show (match keyOf (.str k) with
    | some k => if (l.map (kvA qS f)).length < sizeLine then some (D.dK (putD (l.map (kvA qS f)) k (f v))) else none
    | none => none) = _
  show (if (l.map (kvA qS f)).length < sizeLine then some (D.dK (putD (l.map (kvA qS f)) (Sum.inr k : Key) (f v))) else none) = _
  rw [if_pos hl, put_sT]; rfl
theorem putDD_pT (h : m.length < sizeLine) : putDD (pT f m) (prS p) (f v) = some (pT f (iA m p v)) := by
  have hl : (m.map (kvA qP f)).length < sizeLine := by rw [List.length_map]; exact h
  show (if (m.map (kvA qP f)).length < sizeLine then some (D.dT (putD (m.map (kvA qP f)) [(Sum.inr p.1 : Key), .inr p.2] (f v))) else none) = _
  rw [if_pos hl, put_pT]; rfl
end
theorem gIsN_str {n : Bool} {s : Str} {R : D → Prop} : gIsN n (.str s) .non R = R (.bl n) := rfl
theorem gIsN_sT {β : Type} {f : β → D} {l : List (Str × β)} {n : Bool} {R : D → Prop} : gIsN n (sT f l) .non R = R (.bl n) := rfl
theorem gIsN_pT {β : Type} {f : β → D} {l : List ((Str × Str) × β)} {n : Bool} {R : D → Prop} : gIsN n (pT f l) .non R = R (.bl n) := rfl
theorem gLen_sT {β : Type} {f : β → D} {l : List (Str × β)} {R : D → Prop} : gLen [sT f l] R = R (.int l.length) := by
  show R (.int ((l.map (kvA qS f)).length : Int)) = _
  rw [List.length_map]
theorem gLenD_sT {β : Type} {f : β → D} {l : List (Str × β)} {R : D → Prop} : gLenD [sT f l] R = R (.int l.length) := by
  show R (.int ((l.map (kvA qS f)).length : Int)) = _
  rw [List.length_map]
theorem gLenD_pT {β : Type} {f : β → D} {l : List ((Str × Str) × β)} {R : D → Prop} : gLenD [pT f l] R = R (.int l.length) := by
  show R (.int ((l.map (kvA qP f)).length : Int)) = _
  rw [List.length_map]
theorem gIsN_smD {ws : List Str} {g : Sm} {n : Bool} {R : D → Prop} : gIsN n (smD ws g) .non R = R (.bl n) := rfl
theorem prs_nd {ws : List Str} (h : ws.Nodup) : (prs ws).Nodup := by
  unfold prs
  have : ∀ l : List Str, l.Nodup → (l.flatMap fun x => ws.map fun y => (x, y)).Nodup := fun l => by
    induction l with
    | nil => intro _; exact List.nodup_nil
    | cons x l ih =>
      intro hl
      rw [List.nodup_cons] at hl
      rw [List.flatMap_cons]
      refine List.nodup_append.mpr ⟨?_, ih hl.2, fun a ha b hb e => ?_⟩
      · rw [List.nodup_iff_pairwise_ne, List.pairwise_map]
        exact (List.nodup_iff_pairwise_ne.mp h).imp fun q e => q (Prod.ext_iff.mp e).2
      · obtain ⟨y, _, rfl⟩ := List.mem_map.mp ha
        obtain ⟨z, hz, hb⟩ := List.mem_flatMap.mp hb
        obtain ⟨u, _, rfl⟩ := List.mem_map.mp hb
        cases e
        exact hl.1 hz
  exact this ws h
theorem fm_map_some {Z : Type} {g : Z → D} : ∀ (l : List Z), l.filterMap (fun z => some (g z)) = l.map g := fun l => by
  rw [List.filterMap_eq_map']
theorem neg_of {cs : List Cond} (h1 : bad cs = false) (h2 : neg (words cs) (G cs) = false) : no cs = false := by unfold no; rw [h1, h2]; rfl
theorem no_bad {cs : List Cond} (h : bad cs = true) : no cs = true := by unfold no; rw [h]; rfl
theorem no_neg {cs : List Cond} (h : neg (words cs) (G cs) = true) : no cs = true := by unfold no; rw [h, Bool.or_true]
/-- a new table by texts, all keys new -/
theorem compS_go {Z : Type} {f : Z → D} {g : Str → Z} {fk fv : FE} {ρ : Env} {R : D → Prop} {t : D → Env → Option Env} {ws : List Str} (nd : ws.Nodup) (hl : ws.length < sizeLine)
    (hs : ∀ w ∈ ws, ∀ C : D → D → Prop, C (.str w) (f (g w)) → ∃ ρ', t (.str w) ρ = some ρ' ∧ fk ρ' fun k => fv ρ' fun v => C k v)
    (hR : R (sT f (ws.map fun w => (w, g w)))) : compDD t (fun _ R => R true) fk fv ρ (ws.map .str) (.dK []) R := by
  refine compDD_go (fun xs acc => ∃ dn rs : List Str, dn ++ rs = ws ∧ xs = rs.map .str ∧ acc = sT f (dn.map fun w => (w, g w))) ?_ ?_ _ _ ⟨[], ws, rfl, rfl, rfl⟩
  · rintro x r acc ⟨dn, rs, hd, ex, rfl⟩ N hN
    cases rs with
    | nil => cases ex
    | cons w rs =>
      rw [List.map_cons] at ex
      injection ex with ex1 ex2
      subst ex1
      have hn : w ∉ (dn.map fun w => (w, g w)).map (·.1) := fun z => by
        rw [List.map_map] at z
        obtain ⟨y, hy, e⟩ := List.mem_map.mp z
        have e : y = w := e
        rw [← hd] at nd
        exact (List.nodup_append.mp nd).2.2 y hy w List.mem_cons_self e
      have hlen : (dn.map fun w => (w, g w)).length < sizeLine := by
        have := congrArg List.length hd
        rw [List.length_append] at this
        rw [List.length_map]
        omega
      have e1 := putDD_sT (f := f) (k := w) (v := g w) hlen
      obtain ⟨ρ', e2, h⟩ := hs w (by rw [← hd]; simp) (fun k v => ∃ a', putDD (sT f (dn.map fun w => (w, g w))) k v = some a' ∧ N a') ⟨_, e1, hN _ ⟨dn ++ [w], rs, by rw [List.append_assoc]; exact hd, ex2, by rw [iA_new hn, List.map_append]; rfl⟩⟩
      refine ⟨ρ', e2, ?_⟩
      show (if true = true then _ else _)
      rw [if_pos rfl]
      exact h
  · rintro acc ⟨dn, rs, hd, ex, rfl⟩
    cases rs with
    | cons w rs => cases ex
    | nil =>
      rw [List.append_nil] at hd
      rw [hd]; exact hR
end GK
namespace GK
open PySem PySem.Spec PyProof.Rows L2
open N2 N7
theorem used_ok {cs : List Cond} (h : ∀ c ∈ cs, CondOk c) : ∀ w ∈ used (tests cs), strOk w = true := fun w hw => names_ok h w (names_mem.mpr (used_mem.mp hw))
theorem str_get {xs : List Str} {a : Nat} (h : a < xs.length) : (xs.map D.str)[a]? = some (.str xs[a]) := by rw [List.getElem?_map, List.getElem?_eq_getElem h]; rfl
theorem emod_nat {a n : Nat} : (a : Int) % (n : Int) = ((a % n : Nat) : Int) := rfl
end GK
namespace GK
theorem mm_le {d : Int} (h : -9999 ≤ d) (h2 : d ≤ 9999) : d ≤ (if (if d + 0 < 9999 then d + 0 else 9999) > 0 - 9999 then (if d + 0 < 9999 then d + 0 else 9999) else 0 - 9999) := by
  by_cases c : d + 0 < 9999
  · rw [if_pos c]; split <;> omega
  · rw [if_neg c]; split <;> omega
end GK
namespace GK
open PySem PySem.Spec PyProof.Rows L2
open N2 N7
theorem ok_cnd {c : Cond} (h : CondOk c) : okD 59 (cnD c) = true := by
  cases c with
  | lacks n =>
    refine okDs_all fun d hd => ?_
    simp only [List.mem_cons, List.not_mem_nil, or_false] at hd
    rcases hd with rfl | rfl
    · show strOk "lacks" = true
      decide +kernel
    · exact h
  | most t =>
    refine okDs_all fun d hd => ?_
    simp only [List.mem_cons, List.not_mem_nil, or_false] at hd
    rcases hd with rfl | rfl | rfl | rfl
    · show strOk "most" = true
      decide +kernel
    · exact h.1
    · exact h.2
    · rfl
theorem ok_cnds {cs : List Cond} (h : ∀ c ∈ cs, CondOk c) : okD 60 (.lst (cs.map cnD)) = true := okDs_all fun d hd => by
  obtain ⟨c, hc, rfl⟩ := List.mem_map.mp hd
  exact ok_cnd (h c hc)
end GK

namespace GK.N7
open PySem GK.N2
/-! ### walks of tests -/
def sumT (l : List Tst) : Int := (l.map fun t => t.2.2).sum
theorem sumT_nil : sumT [] = 0 := rfl
theorem sumT_cons {t : Tst} {l : List Tst} : sumT (t :: l) = t.2.2 + sumT l := by unfold sumT; rw [List.map_cons, List.sum_cons]
theorem sumT_append {l m : List Tst} : sumT (l ++ m) = sumT l + sumT m := by unfold sumT; rw [List.map_append, List.sum_append]
theorem sumT_rev {l : List Tst} : sumT l.reverse = sumT l := by
  induction l with
  | nil => rfl
  | cons t l ih => rw [List.reverse_cons, sumT_append, ih, sumT_cons, sumT_cons, sumT_nil]; omega
/-- from t.2.1 to t.1 -/
def WkS (ps : List Tst) : Str → List Tst → Str → Prop
  | s, [], v => s = v
  | s, t :: l, v => t ∈ ps ∧ t.2.1 = s ∧ WkS ps t.1 l v
/-- from t.1 to t.2.1 -/
def WkT (ps : List Tst) : Str → List Tst → Str → Prop
  | s, [], v => s = v
  | s, t :: l, v => t ∈ ps ∧ t.1 = s ∧ WkT ps t.2.1 l v
theorem wkS_append {ps : List Tst} : ∀ {l m : List Tst} {s v : Str}, WkS ps s (l ++ m) v ↔ ∃ k, WkS ps s l k ∧ WkS ps k m v
  | [], m, s, v => ⟨fun h => ⟨s, rfl, h⟩, fun ⟨k, e, h⟩ => by have e : s = k := e; rw [e]; exact h⟩
  | t :: l, m, s, v => ⟨fun ⟨h1, h2, h3⟩ => let ⟨k, a, b⟩ := wkS_append.mp h3; ⟨k, ⟨h1, h2, a⟩, b⟩, fun ⟨k, ⟨h1, h2, a⟩, b⟩ => ⟨h1, h2, wkS_append.mpr ⟨k, a, b⟩⟩⟩
theorem wkT_append {ps : List Tst} : ∀ {l m : List Tst} {s k v : Str}, WkT ps s l k → WkT ps k m v → WkT ps s (l ++ m) v
  | [], m, s, k, v, e, h => by have e : s = k := e; rw [e]; exact h
  | t :: l, m, s, k, v, ⟨h1, h2, a⟩, b => ⟨h1, h2, wkT_append a b⟩
theorem wkT_rev {ps : List Tst} : ∀ {l : List Tst} {s v : Str}, WkT ps s l v → WkS ps v l.reverse s
  | [], s, v, e => (show s = v from e).symm
  | t :: l, s, v, ⟨h1, h2, h3⟩ => by
    rw [List.reverse_cons]
    exact wkS_append.mpr ⟨t.2.1, wkT_rev h3, h1, rfl, h2⟩
def CNS (ps : List Tst) (k : Nat) : Prop := ∃ s l, l.length = k ∧ l ≠ [] ∧ WkS ps s l s ∧ sumT l < 0
/-- .. of the fewest -/
def FewS (ps : List Tst) (k : Nat) : Prop := 0 < k ∧ CNS ps k ∧ ∀ j, j < k → ¬ CNS ps j
theorem FewS.uniq {ps : List Tst} {k j : Nat} (h : FewS ps k) (g : FewS ps j) : k = j := by
  have a : ¬ k < j := fun z => g.2.2 k z h.2.1
  have b : ¬ j < k := fun z => h.2.2 j z g.2.1
  omega
section
variable {ws : List Str} {ts pl : List Tst} {nu : List Str}
/-- each least sum is a walk's -/
def At (ws : List Str) (pl : List Tst) (g : Sm) : Prop := ∀ x ∈ ws, ∀ y ∈ ws, ∃ l, WkT pl x l y ∧ sumT l = g x y
theorem up_at {g : Sm} {x y : Str} {v : Int} (h : At ws pl g) (hv : x ∈ ws → y ∈ ws → ∃ l, WkT pl x l y ∧ sumT l = v) : At ws pl (up g x y v) := fun a ha b hb => by
  unfold up
  split
  · rename_i q
    rw [q.1] at ha ⊢
    rw [q.2] at hb ⊢
    exact hv ha hb
  · exact h a ha b hb
theorem rx_at2 {g : Sm} {y x z : Str} (hy : y ∈ ws) (h : At ws pl g) : At ws pl (rx y x g z) := up_at h fun hx hz => by
  rcases mn_or (a := g x z) (b := g x y + g y z) with e | e
  · rw [e]; exact h x hx z hz
  · obtain ⟨l, a, a2⟩ := h x hx y hy
    obtain ⟨m, b, b2⟩ := h y hy z hz
    rw [e]
    exact ⟨l ++ m, wkT_append a b, by rw [sumT_append, a2, b2]⟩
theorem clo_at (h : At ws pl (clo0 ts)) : At ws pl (clo ws ts) := foldl_keep (fun s y hy hs => foldl_keep (fun s x _ hs => foldl_keep (fun s z _ hs => rx_at2 hy hs) hs) hs) h
theorem clo0_at (P : Pl ws ts pl nu) : At ws pl (clo0 ts) := by
  have h0 : At ws pl g0 := fun x hx y hy => by
    unfold g0
    by_cases e : x = y
    · rw [if_pos (.inl e)]
      exact ⟨[], e, rfl⟩
    · by_cases e2 : x = ""
      · rw [if_pos (.inr e2)]
        have hy2 : y ≠ "" := fun z => e (e2.trans z.symm)
        exact ⟨[("", y, 0)], ⟨P.b2 y hy hy2, e2.symm, rfl⟩, rfl⟩
      · rw [if_neg fun z => z.elim e e2]
        by_cases e3 : y = ""
        · exact ⟨[(x, "", 9999)], ⟨P.b1 x hx e2, rfl, e3.symm⟩, rfl⟩
        · exact ⟨[(x, "", 9999), ("", y, 0)], ⟨P.b1 x hx e2, rfl, P.b2 y hy e3, rfl, rfl⟩, rfl⟩
  refine foldl_keep (fun s t h1 hs => up_at hs fun hx hy => ?_) h0
  rcases mn_or (a := s t.1 t.2.1) (b := t.2.2) with e | e
  · rw [e]; exact hs _ hx _ hy
  · rw [e]
    exact ⟨[t], ⟨P.tp t h1, rfl, rfl⟩, by rw [sumT_cons, sumT_nil]; omega⟩
theorem neg_cns (P : Pl ws ts pl nu) (h : neg ws (clo ws ts) = true) : ∃ k, CNS pl k := by
  unfold neg at h
  obtain ⟨x, hx, h⟩ := List.any_eq_true.mp h
  have h : clo ws ts x x < 0 := of_decide_eq_true h
  obtain ⟨l, a, b⟩ := clo_at (clo0_at P) x hx x hx
  refine ⟨l.reverse.length, x, l.reverse, rfl, fun z => ?_, wkT_rev a, by rw [sumT_rev]; omega⟩
  have : sumT l.reverse = 0 := by rw [z]; rfl
  rw [sumT_rev] at this
  omega
theorem cns_neg (P : Pl ws ts pl nu) {k : Nat} (h : CNS pl k) : neg ws (clo ws ts) = true := by
  cases q : neg ws (clo ws ts) with
  | true => rfl
  | false =>
    have tri := clo_tri q
    have key : ∀ (l : List Tst) (s v : Str), WkS pl s l v → clo ws ts "" s - clo ws ts "" v ≤ sumT l := fun l => by
      induction l with
      | nil =>
        intro s v e
        have e : s = v := e
        rw [e, sumT_nil]; omega
      | cons t l ih =>
        intro s v ⟨h1, h2, h3⟩
        have a := ih _ _ h3
        have b := tri _ (P.pw t h1).1 "" P.w0 _ (P.pw t h1).2.1
        have c := (P.pw t h1).2.2
        rw [sumT_cons, ← h2]
        omega
    obtain ⟨s, l, _, _, hw, hs⟩ := h
    have := key l s s hw
    omega
end
/-! ### by numbers -/
def poolE (ps : List Tst) : List Ed := ps.map fun t => ((nums ps).idxOf t.2.1, (nums ps).idxOf t.1, t.2.2)
def tst (ps : List Tst) (i : Nat) : Tst := ps.getD i ("", "", 0)
theorem poolE_at {ps : List Tst} {i u v : Nat} {c : Int} (e : (poolE ps)[i]? = some (u, v, c)) : tst ps i ∈ ps ∧ u = (nums ps).idxOf (tst ps i).2.1 ∧ v = (nums ps).idxOf (tst ps i).1 ∧ c = (tst ps i).2.2 := by
  unfold poolE at e
  rw [List.getElem?_map] at e
  obtain ⟨t, h1, h2⟩ := Option.map_eq_some_iff.mp e
  have ht : tst ps i = t := by unfold tst; rw [List.getD_eq_getElem?_getD, h1]; rfl
  cases h2
  rw [ht]
  exact ⟨List.mem_of_getElem? h1, rfl, rfl, rfl⟩
theorem in_nums {ps : List Tst} {t : Tst} (h : t ∈ ps) : t.1 ∈ nums ps ∧ t.2.1 ∈ nums ps := ⟨nums_mem.mpr (.inr ⟨t, h, .inl rfl⟩), nums_mem.mpr (.inr ⟨t, h, .inr rfl⟩)⟩
theorem poolE_wf (ps : List Tst) : Wf (poolE ps) (nums ps).length := fun e he => by
  obtain ⟨t, ht, rfl⟩ := List.mem_map.mp he
  exact ⟨List.idxOf_lt_length_of_mem (in_nums ht).2, List.idxOf_lt_length_of_mem (in_nums ht).1⟩
theorem wk_to {ps : List Tst} : ∀ {is : List Nat} {s v : Nat}, Wk (poolE ps) s is v → WkS ps ((nums ps).getD s "") (is.map (tst ps)) ((nums ps).getD v "") ∧ sm (poolE ps) is = sumT (is.map (tst ps))
  | [], s, v, e => by
    have e : s = v := e
    rw [e]; exact ⟨rfl, rfl⟩
  | i :: is, s, v, ⟨m, c, e, w⟩ => by
    obtain ⟨h1, h2, h3, h4⟩ := poolE_at e
    obtain ⟨h5, h6⟩ := wk_to w
    rw [h3, word_at (in_nums h1).1] at h5
    refine ⟨⟨h1, by rw [h2, word_at (in_nums h1).2], h5⟩, ?_⟩
    rw [List.map_cons, sumT_cons, ← h6, ← h4]
    show cst (poolE ps) i + _ = _
    rw [cst_at e]
theorem wk_from {ps : List Tst} : ∀ {l : List Tst} {s v : Str}, WkS ps s l v → ∃ is, Wk (poolE ps) ((nums ps).idxOf s) is ((nums ps).idxOf v) ∧ is.length = l.length ∧ sm (poolE ps) is = sumT l
  | [], s, v, e => by
    have e : s = v := e
    rw [e]; exact ⟨[], rfl, rfl, rfl⟩
  | t :: l, s, v, ⟨h1, h2, h3⟩ => by
    obtain ⟨is, a, b, c⟩ := wk_from h3
    obtain ⟨i, e⟩ := List.getElem?_of_mem h1
    have e2 : (poolE ps)[i]? = some ((nums ps).idxOf t.2.1, (nums ps).idxOf t.1, t.2.2) := by unfold poolE; rw [List.getElem?_map, e]; rfl
    refine ⟨i :: is, ⟨_, _, by rw [← h2]; exact e2, a⟩, by rw [List.length_cons, List.length_cons, b], ?_⟩
    show cst (poolE ps) i + sm (poolE ps) is = _
    rw [cst_at e2, c, sumT_cons]
theorem cns_cn {ps : List Tst} {k : Nat} (h : CNS ps k) : CN (poolE ps) k := by
  obtain ⟨s, l, h1, h2, h3, h4⟩ := h
  obtain ⟨is, a, b, c⟩ := wk_from h3
  refine ⟨_, is, by rw [b, h1], fun z => h2 ?_, a, by rw [c]; exact h4⟩
  rw [z] at b
  exact List.length_eq_zero_iff.mp b.symm
theorem cn_cns {ps : List Tst} {k : Nat} (h : CN (poolE ps) k) : CNS ps k := by
  obtain ⟨s, is, h1, h2, h3, h4⟩ := h
  obtain ⟨a, b⟩ := wk_to h3
  exact ⟨_, is.map (tst ps), by rw [List.length_map]; exact h1, fun z => h2 (List.map_eq_nil_iff.mp z), a, by rw [← b]; exact h4⟩
theorem few_le {ps : List Tst} {k : Nat} (h : FewS ps k) : k ≤ (nums ps).length := cn_le (poolE_wf ps) (cns_cn h.2.1) fun j hj c => h.2.2 j hj (cn_cns c)
theorem cns_few {ps : List Tst} {k : Nat} (h : CNS ps k) : ∃ m, FewS ps m := by
  obtain ⟨m, _, a, b⟩ := cn_min k (cns_cn h)
  have ha := cn_cns a
  refine ⟨m, ?_, ha, fun j hj c => b j hj (cns_cn c)⟩
  obtain ⟨s, l, h1, h2, _⟩ := ha
  rw [← h1]
  exact List.length_pos_iff.mpr h2
/-! ### a ring's judge -/
def chk : Str → List Str → List Tst → Bool
  | _, _, [] => true
  | p, sn, t :: r => decide (t.2.1 = p) && !decide (t.2.1 ∈ sn) && chk t.1 (sn ++ [t.2.1]) r
def lastO (r : List Tst) : Str := (r.getLast?.map (·.1)).getD ""
def allIn (ps r : List Tst) : Bool := r.all fun t => decide (t ∈ ps)
def judge (ps r : List Tst) : Bool := allIn ps r && chk (lastO r) [] r && decide (sumT r < 0)
theorem wkS_in {ps : List Tst} : ∀ {l : List Tst} {s v : Str}, WkS ps s l v → ∀ t ∈ l, t ∈ ps
  | [], _, _, _, t, h => nomatch h
  | x :: l, _, _, ⟨h1, _, h3⟩, t, h => (List.mem_cons.mp h).elim (fun z => z ▸ h1) (wkS_in h3 t)
theorem wkS_last {ps : List Tst} : ∀ {l : List Tst} {s v : Str}, WkS ps s l v → l ≠ [] → lastO l = v
  | [t], s, v, ⟨_, _, h3⟩, _ => h3
  | t :: u :: l, s, v, ⟨_, _, h3⟩, _ => by
    have := wkS_last h3 (by simp)
    unfold lastO at this ⊢
    rw [List.getLast?_cons_cons]; exact this
theorem wkS_chk {ps : List Tst} : ∀ {l : List Tst} {s v : Str} {sn : List Str}, WkS ps s l v → (l.map fun t => t.2.1).Nodup → (∀ t ∈ l, t.2.1 ∉ sn) → chk s sn l = true
  | [], _, _, _, _, _, _ => rfl
  | t :: l, s, v, sn, ⟨h1, h2, h3⟩, nd, hn => by
    rw [List.map_cons, List.nodup_cons] at nd
    unfold chk
    rw [decide_eq_true h2, decide_eq_false (hn t List.mem_cons_self), wkS_chk h3 nd.2 fun u hu z => ?_]
    · rfl
    · rcases List.mem_append.mp z with z | z
      · exact hn u (List.mem_cons_of_mem _ hu) z
      · rw [List.mem_singleton] at z
        exact nd.1 (List.mem_map.mpr ⟨u, hu, z⟩)
theorem least_ring {ps : List Tst} {s : Nat} {is : List Nat} (h : Least (poolE ps) s is) : judge ps (is.map (tst ps)) = true ∧ FewS ps (is.map (tst ps)).length ∧ ∀ i ∈ is, i < ps.length := by
  obtain ⟨a, b⟩ := wk_to h.2.1
  have hne : is.map (tst ps) ≠ [] := fun z => h.1 (List.map_eq_nil_iff.mp z)
  have hval : ∀ (is : List Nat) (s v : Nat), Wk (poolE ps) s is v → ∀ i ∈ is, i < ps.length ∧ tl (poolE ps) i = (nums ps).idxOf (tst ps i).2.1 := fun is => by
    induction is with
    | nil => intro s v _ i hi; cases hi
    | cons j is ih =>
      intro s v ⟨m, c, e, w⟩ i hi
      rcases List.mem_cons.mp hi with z | z
      · subst z
        refine ⟨?_, ?_⟩
        · have := (List.getElem?_eq_some_iff.mp e).1
          unfold poolE at this
          rw [List.length_map] at this; exact this
        · rw [tl_at e]; exact (poolE_at e).2.1
      · exact ih m v w i z
  have nd : ((is.map (tst ps)).map fun t => t.2.1).Nodup := by
    have h2 := h.tails
    rw [List.map_map]
    rw [List.nodup_iff_pairwise_ne, List.pairwise_map] at h2 ⊢
    refine h2.imp_of_mem fun {x y} hx hy q e => q ?_
    rw [(hval is s s h.2.1 x hx).2, (hval is s s h.2.1 y hy).2]
    exact congrArg (fun w => (nums ps).idxOf w) (show (tst ps x).2.1 = (tst ps y).2.1 from e)
  refine ⟨?_, ⟨List.length_pos_iff.mpr hne, cn_cns (by rw [List.length_map]; exact h.cn), fun j hj c => h.2.2.2 j (by rw [List.length_map] at hj; exact hj) (cns_cn c)⟩, fun i hi => (hval is s s h.2.1 i hi).1⟩
  unfold judge
  have hn : ∀ t ∈ is.map (tst ps), t.2.1 ∉ ([] : List Str) := fun _ _ z => (by cases z)
  have hs : sumT (is.map (tst ps)) < 0 := by rw [← b]; exact h.2.2.1
  rw [wkS_last a hne, wkS_chk a nd hn, decide_eq_true hs]
  unfold allIn
  rw [List.all_eq_true.mpr fun t ht => decide_eq_true (wkS_in a t ht)]
  rfl
/-! ### the law's own search -/
abbrev RowS := List (Str × (Int × List Tst))
def stepS (row acc : RowS) (t : Tst) : RowS := match gA row t.2.1 with
  | none => acc
  | some (b, l) => match gA acc t.1 with
    | none => iA acc t.1 (b + t.2.2, l ++ [t])
    | some (d, _) => if b + t.2.2 < d then iA acc t.1 (b + t.2.2, l ++ [t]) else acc
def nextS (ps : List Tst) (row : RowS) : RowS := ps.foldl (stepS row) []
def lrS (ps : List Tst) (w : Str) : Nat → RowS
  | 0 => [(w, (0, []))]
  | k + 1 => nextS ps (lrS ps w k)
structure RowSOk (ps : List Tst) (w : Str) (k : Nat) (row : RowS) : Prop where
  wk : ∀ v b l, gA row v = some (b, l) → WkS ps w l v ∧ l.length = k ∧ sumT l = b
  le : ∀ v l, WkS ps w l v → l.length = k → ∃ b m, gA row v = some (b, m) ∧ b ≤ sumT l
theorem stepS_old {row acc : RowS} {t : Tst} {v : Str} {b : Int} {l : List Tst} (h : gA acc v = some (b, l)) : ∃ d m, gA (stepS row acc t) v = some (d, m) ∧ d ≤ b := by
  unfold stepS
  split
  · exact ⟨b, l, h, Int.le_refl _⟩
  · rename_i c k _
    split
    · rename_i h2
      rw [gA_iA]
      by_cases e : v = t.1
      · rw [e, h2] at h; cases h
      · rw [if_neg e]; exact ⟨b, l, h, Int.le_refl _⟩
    · rename_i d0 m0 h2
      split
      · rename_i q
        rw [gA_iA]
        by_cases e : v = t.1
        · rw [if_pos e]
          rw [e, h2] at h
          cases h
          exact ⟨_, _, rfl, by omega⟩
        · rw [if_neg e]; exact ⟨b, l, h, Int.le_refl _⟩
      · exact ⟨b, l, h, Int.le_refl _⟩
theorem stepS_new {row acc : RowS} {t : Tst} {b : Int} {l : List Tst} (h : gA row t.2.1 = some (b, l)) : ∃ d m, gA (stepS row acc t) t.1 = some (d, m) ∧ d ≤ b + t.2.2 := by
  unfold stepS
  rw [h]
  dsimp only
  split
  · rw [gA_iA, if_pos rfl]; exact ⟨_, _, rfl, Int.le_refl _⟩
  · rename_i d0 m0 h2
    split
    · rw [gA_iA, if_pos rfl]; exact ⟨_, _, rfl, Int.le_refl _⟩
    · rename_i q
      exact ⟨d0, m0, h2, by omega⟩
theorem stepS_from {row acc : RowS} {t : Tst} {v : Str} {d : Int} {m : List Tst} (h : gA (stepS row acc t) v = some (d, m)) : gA acc v = some (d, m) ∨ ∃ b l, v = t.1 ∧ gA row t.2.1 = some (b, l) ∧ d = b + t.2.2 ∧ m = l ++ [t] := by
  unfold stepS at h
  split at h
  · exact .inl h
  · rename_i b l h1
    have put : gA (iA acc t.1 (b + t.2.2, l ++ [t])) v = some (d, m) → gA acc v = some (d, m) ∨ ∃ b l, v = t.1 ∧ gA row t.2.1 = some (b, l) ∧ d = b + t.2.2 ∧ m = l ++ [t] := fun h => by
      rw [gA_iA] at h
      by_cases e : v = t.1
      · rw [if_pos e] at h
        cases h
        exact .inr ⟨b, l, e, h1, rfl, rfl⟩
      · rw [if_neg e] at h
        exact .inl h
    split at h
    · exact put h
    · split at h
      · exact put h
      · exact .inl h
theorem foldS_old {row : RowS} : ∀ {ps : List Tst} {acc : RowS} {v : Str} {b : Int} {l : List Tst}, gA acc v = some (b, l) → ∃ d m, gA (ps.foldl (stepS row) acc) v = some (d, m) ∧ d ≤ b
  | [], acc, v, b, l, h => ⟨b, l, h, Int.le_refl _⟩
  | t :: ps, acc, v, b, l, h => by
    obtain ⟨d, m, h1, h2⟩ := stepS_old (row := row) (t := t) h
    obtain ⟨d2, m2, h3, h4⟩ := foldS_old (row := row) (ps := ps) h1
    exact ⟨d2, m2, h3, by omega⟩
theorem foldS_new {row : RowS} : ∀ {ps : List Tst} {acc : RowS} {t : Tst} {b : Int} {l : List Tst}, t ∈ ps → gA row t.2.1 = some (b, l) → ∃ d m, gA (ps.foldl (stepS row) acc) t.1 = some (d, m) ∧ d ≤ b + t.2.2
  | [], acc, t, b, l, h, _ => nomatch h
  | u :: ps, acc, t, b, l, h, hr => by
    rcases List.mem_cons.mp h with e | h
    · subst e
      obtain ⟨d, m, h1, h2⟩ := stepS_new (acc := acc) hr
      obtain ⟨d2, m2, h3, h4⟩ := foldS_old (row := row) (ps := ps) h1
      exact ⟨d2, m2, h3, by omega⟩
    · exact foldS_new (ps := ps) h hr
theorem foldS_from {row : RowS} : ∀ {ps : List Tst} {acc : RowS} {v : Str} {d : Int} {m : List Tst}, gA (ps.foldl (stepS row) acc) v = some (d, m) → gA acc v = some (d, m) ∨ ∃ t ∈ ps, ∃ b l, v = t.1 ∧ gA row t.2.1 = some (b, l) ∧ d = b + t.2.2 ∧ m = l ++ [t]
  | [], acc, v, d, m, h => .inl h
  | t :: ps, acc, v, d, m, h => by
    rcases foldS_from (ps := ps) h with h | ⟨u, hu, r⟩
    · rcases stepS_from h with h | r
      · exact .inl h
      · exact .inr ⟨t, List.mem_cons_self, r⟩
    · exact .inr ⟨u, List.mem_cons_of_mem _ hu, r⟩
theorem lrS_ok {ps : List Tst} {w : Str} : ∀ k, RowSOk ps w k (lrS ps w k)
  | 0 => by
    refine ⟨fun v b l h => ?_, fun v l h e => ?_⟩
    · rw [show lrS ps w 0 = [(w, (0, []))] from rfl, gA_cons] at h
      split at h
      · rename_i q
        cases h
        exact ⟨q, rfl, rfl⟩
      · cases h
    · have e := List.length_eq_zero_iff.mp e
      subst e
      have h : w = v := h
      subst h
      exact ⟨0, [], by rw [show lrS ps w 0 = [(w, (0, []))] from rfl, gA_cons, if_pos rfl], Int.le_refl _⟩
  | k + 1 => by
    have ih := lrS_ok (ps := ps) (w := w) k
    refine ⟨fun v b l h => ?_, fun v l h e => ?_⟩
    · rcases foldS_from h with h | ⟨t, ht, b2, l2, e1, h1, e2, e3⟩
      · cases h
      · obtain ⟨a, a2, a3⟩ := ih.wk _ _ _ h1
        subst e1
        subst e3
        exact ⟨wkS_append.mpr ⟨_, a, ht, rfl, rfl⟩, by rw [List.length_append, a2]; rfl, by rw [sumT_append, a3, e2, sumT_cons, sumT_nil]; omega⟩
    · obtain ⟨l2, t, rfl⟩ : ∃ l2 t, l = l2 ++ [t] := by
        rcases List.eq_nil_or_concat l with z | ⟨a, b, z⟩
        · rw [z] at e; cases e
        · exact ⟨a, b, by rw [z, List.concat_eq_append]⟩
      obtain ⟨m, h1, h2, h3, h4⟩ := wkS_append.mp h
      have h4 : t.1 = v := h4
      subst h4
      rw [List.length_append, List.length_singleton] at e
      obtain ⟨b, l3, g1, g2⟩ := ih.le _ _ h1 (by omega)
      rw [← h3] at g1
      obtain ⟨d, m2, q1, q2⟩ := foldS_new (acc := []) h2 g1
      exact ⟨d, m2, q1, by rw [sumT_append, sumT_cons, sumT_nil]; omega⟩
/-- a closed walk was found at the start w -/
theorem srch_hit {ps : List Tst} {w : Str} {k : Nat} {b : Int} {l : List Tst} (hk : 0 < k) (h : gA (lrS ps w k) w = some (b, l)) (hb : b < 0) (hm : ∀ j, 0 < j → j < k → ∀ v ∈ nums ps, ∀ b l, gA (lrS ps v j) v = some (b, l) → 0 ≤ b) : FewS ps l.length ∧ ∀ t ∈ l, t ∈ ps := by
  obtain ⟨a, a2, a3⟩ := (lrS_ok k).wk _ _ _ h
  refine ⟨⟨by omega, ⟨w, l, rfl, fun z => by rw [z] at a2; simp at a2; omega, a, by omega⟩, fun j hj c => ?_⟩, wkS_in a⟩
  obtain ⟨s, m, h1, h2, h3, h4⟩ := c
  have hs : s ∈ nums ps := by
    cases m with
    | nil => exact absurd rfl h2
    | cons t m => rw [← h3.2.1]; exact (in_nums h3.1).2
  obtain ⟨d, m2, q1, q2⟩ := (lrS_ok j).le _ _ h3 h1
  have := hm j (by rw [← h1]; exact List.length_pos_iff.mpr h2) (by omega) s hs d m2 q1
  omega
theorem srch_none {ps : List Tst} (hm : ∀ j, 0 < j → j ≤ (nums ps).length → ∀ v ∈ nums ps, ∀ b l, gA (lrS ps v j) v = some (b, l) → 0 ≤ b) (k : Nat) : ¬ CNS ps k := fun c => by
  obtain ⟨f, F⟩ := cns_few c
  have hf := few_le F
  obtain ⟨s, m, h1, h2, h3, h4⟩ := F.2.1
  have hs : s ∈ nums ps := by
    cases m with
    | nil => exact absurd rfl h2
    | cons t m => rw [← h3.2.1]; exact (in_nums h3.1).2
  obtain ⟨d, m2, q1, q2⟩ := (lrS_ok f).le _ _ h3 h1
  have := hm f F.1 hf s hs d m2 q1
  omega
end GK.N7

namespace GK
open PySem PySem.Spec PyProof.Rows L2
open N2 N7
structure StuOk (st : List (Str × Int)) (nm : List Str) : Prop where
  z : gA st "" = some 0
  v : ∀ n ∈ nm, ∃ v, gA st n = some v ∧ 0 ≤ v ∧ v ≤ 9999
def CIn (ws : List Str) : Cond → Prop
  | .lacks n => n ∈ ws
  | .most t => t.1 ∈ ws ∧ t.2.1 ∈ ws
def val (st : List (Str × Int)) (x : Str) : Int := (gA st x).getD 0
theorem StuOk.get {st : List (Str × Int)} {nm : List Str} (h : StuOk st nm) {x : Str} (hx : x ∈ ("" : Str) :: nm) : gA st x = some (val st x) ∧ 0 ≤ val st x ∧ val st x ≤ 9999 := by
  unfold val
  rcases List.mem_cons.mp hx with e | hx
  · rw [e, h.z]; exact ⟨rfl, by decide, by decide⟩
  · obtain ⟨v, e, h1, h2⟩ := h.v x hx
    rw [e]; exact ⟨rfl, h1, h2⟩
def TOk (t : Tst) : Prop := strOk t.1 = true ∧ strOk t.2.1 = true
inductive Pap where
  | lack (n : Str)
  | ring (k : Str) (r : List Tst)
def papD : Pap → D
  | .lack n => .tup [.str "lacks", .str n]
  | .ring k r => .tup [.str k, .lst (r.map tsD)]
def PapOk : Pap → Prop
  | .lack n => strOk n = true
  | .ring k r => (k = "ring" ∨ k = "rings") ∧ r.length ≤ 200 ∧ ∀ t ∈ r, TOk t
def shown (cs : List Cond) : Pap → Bool
  | .lack n => decide (n ∈ names cs) && decide (n ∈ lacked cs)
  | .ring k r => decide (k = "ring") && judge (poolC cs) r
def fbad (cs : List Cond) : Option Str := (lacked cs).find? fun n => decide (n ∈ names cs)
inductive Told (cs : List Cond) : D → Prop where
  | none (h : fbad cs = none) (h2 : ∀ k, ¬ CNS (poolC cs) k) : Told cs .non
  | lack (n : Str) (h : fbad cs = some n) : Told cs (.tup [.str "lacks", .str n])
  | ring (r : List Tst) (h : fbad cs = none) (h1 : judge (poolC cs) r = true) (h2 : FewS (poolC cs) r.length) (h3 : r.length ≤ 100) : Told cs (.tup [.str "ring", .lst (r.map tsD)])
inductive Due (cs : List Cond) : D → Prop where
  | none (h : fbad cs = none) (h2 : ∀ k, ¬ CNS (poolC cs) k) : Due cs .non
  | lack (n : Str) (h : fbad cs = some n) : Due cs (.tup [.str "lacks", .str n])
  | ring (r : List Tst) (h : fbad cs = none) (h2 : FewS (poolC cs) r.length) (h3 : r.length ≤ 100) : Due cs (.tup [.str "ring", .lst (r.map tsD)])
def fbD (cs : List Cond) : D := match fbad cs with
  | some n => .str n
  | none => .non
structure PsOk (ps : List Tst) : Prop where
  len : ps.length ≤ 50
  num : (nums ps).length ≤ 50
  ok : ∀ t ∈ ps, TOk t
def ringD (r : List Tst) : D := .lst (r.map tsD)
def noB (t : Tst) : Bool := !((decide (t.2.1 = "") && decide (9999 ≤ t.2.2)) || (decide (t.1 = "") && decide (0 ≤ t.2.2)))
def tqD (q : Int × List Tst) : D := .tup [.int q.1, .lst (q.2.map tsD)]
theorem tq_0 {q : Int × List Tst} {R : D → Prop} : gIx (tqD q) (.int 0) R = R (.int q.1) := gIx_t0
theorem tq_1 {q : Int × List Tst} {R : D → Prop} : gIx (tqD q) (.int 1) R = R (.lst (q.2.map tsD)) := gIx_t1
abbrev rowSD (row : RowS) : D := sT tqD row
def rowsD (ps : List Tst) (ws : List Str) (s k : Nat) : List D := (ws.take k).map (fun w => rowSD (lrS ps w (s + 1))) ++ (ws.drop k).map (fun w => rowSD (lrS ps w s))
theorem rowsD_len {ps : List Tst} {ws : List Str} {s k : Nat} : (rowsD ps ws s k).length = ws.length := by
  unfold rowsD
  rw [List.length_append, List.length_map, List.length_map, ← List.length_append, List.take_append_drop]
theorem rowsD_get {ps : List Tst} {ws : List Str} {s k : Nat} (h : k < ws.length) : (rowsD ps ws s k)[k]? = some (rowSD (lrS ps ws[k] s)) := by
  unfold rowsD
  have e : ((ws.take k).map (fun w => rowSD (lrS ps w (s + 1)))).length = k := by rw [List.length_map, List.length_take]; omega
  rw [List.getElem?_append_right (by rw [e]; exact Nat.le_refl _), e, Nat.sub_self, List.getElem?_map, List.getElem?_drop, Nat.add_zero, List.getElem?_eq_getElem h]; rfl
theorem rowsD_set {ps : List Tst} {ws : List Str} {s k : Nat} (h : k < ws.length) : (rowsD ps ws s k).set k (rowSD (lrS ps ws[k] (s + 1))) = rowsD ps ws s (k + 1) := by
  unfold rowsD
  have e : ((ws.take k).map (fun w => rowSD (lrS ps w (s + 1)))).length = k := by rw [List.length_map, List.length_take]; omega
  rw [List.set_append_right _ _ (by rw [e]; exact Nat.le_refl _), e, Nat.sub_self, List.drop_eq_getElem_cons h, List.map_cons, List.set_cons_zero, List.take_succ_eq_append_getElem h, List.map_append, List.append_assoc]
  rfl
theorem rowsD_0 {ps : List Tst} {ws : List Str} {s : Nat} : rowsD ps ws s 0 = ws.map (fun w => rowSD (lrS ps w s)) := rfl
theorem rowsD_all {ps : List Tst} {ws : List Str} {s : Nat} : rowsD ps ws s ws.length = rowsD ps ws (s + 1) 0 := by
  unfold rowsD
  rw [List.take_length, List.drop_length, List.take_zero, List.drop_zero, List.map_nil, List.append_nil]; rfl
theorem d_rl : decide (("ring" : Str) = "lacks") = false := by decide
theorem d_sl : decide (("rings" : Str) = "lacks") = false := by decide
theorem d_sr : decide (("rings" : Str) = "ring") = false := by decide
theorem d_lr : decide (("lacks" : Str) = "ring") = false := by decide
theorem tsD_inj : ∀ a b : Tst, tsD a = tsD b → a = b := fun a b h => by
  obtain ⟨a1, a2, a3⟩ := a
  obtain ⟨b1, b2, b3⟩ := b
  unfold tsD at h
  simp at h
  obtain ⟨h1, h2, h3⟩ := h
  rw [h1, h2, h3]
theorem pn_ts (t : Tst) : pnD (tsD t) = true := rfl
theorem ok_ts {n : Nat} {t : Tst} (h : TOk t) : okD (n + 1) (tsD t) = true := by
  unfold tsD
  rw [okD]
  refine okDs_all fun d hd => ?_
  simp only [List.mem_cons, List.not_mem_nil, or_false] at hd
  rcases hd with rfl | rfl | rfl | rfl
  · show strOk "most" = true
    decide +kernel
  · exact h.1
  · exact h.2
  · cases n <;> rfl
theorem cnD_inj : ∀ a b : Cond, cnD a = cnD b → a = b := fun a b h => by
  cases a <;> cases b
  · unfold cnD lkD at h; simp at h; rw [h]
  · unfold cnD lkD tsD at h; simp at h
  · unfold cnD lkD tsD at h; simp at h
  · rw [tsD_inj _ _ h]
theorem pn_cn (c : Cond) : pnD (cnD c) = true := by cases c <;> rfl
theorem ok_cn {n : Nat} {c : Cond} (h : CondOk c) : okD (n + 1) (cnD c) = true := by
  cases c with
  | most t => exact ok_ts h
  | lacks m =>
    refine okDs_all fun d hd => ?_
    simp only [List.mem_cons, List.not_mem_nil, or_false] at hd
    rcases hd with rfl | rfl
    · show strOk "lacks" = true
      decide +kernel
    · exact h
theorem ts_get {ps : List Tst} {i : Nat} (h : i < ps.length) : (ps.map tsD)[i]? = some (tsD (tst ps i)) := by
  rw [List.getElem?_map, List.getElem?_eq_getElem h]
  unfold tst
  rw [List.getD_eq_getElem?_getD, List.getElem?_eq_getElem h]; rfl
theorem psC {cs : List Cond} (ok : CsOk cs) : PsOk (poolC cs) where
  len := by
    unfold poolC
    rw [pool_len]
    have := tests_len cs
    have := names_len (cs := cs)
    have := ok.len
    omega
  num := by
    have h := nodup_len (nums_nd (ps := poolC cs)) (m := words cs) fun w hw => (plC cs).nw w hw
    have : (words cs).length = (names cs).length + 1 := rfl
    have := names_len (cs := cs)
    have := ok.len
    omega
  ok := fun t ht => by
    have e0 : strOk "" = true := by decide +kernel
    rcases pool_mem.mp ht with h | ⟨n, hn, h | h⟩
    · exact ok.ok _ (tests_mem.mp h)
    · rw [h]; exact ⟨names_ok ok.ok n hn, e0⟩
    · rw [h]; exact ⟨e0, names_ok ok.ok n hn⟩
/-- the test ahead of the one at hand -/
def ahead (r dn : List Tst) : Str := if dn = [] then lastO r else lastO dn
theorem prev_ts {dn rs : List Tst} {t : Tst} {R : D → Prop} (q : ∀ u : Tst, u.1 = ahead (dn ++ t :: rs) dn → R (tsD u)) : gIx (.lst ((dn ++ t :: rs).map tsD)) (.int ((dn.length : Int) - 1)) R := by
  unfold ahead at q
  cases dn with
  | nil =>
    have hne : (([] : List Tst) ++ t :: rs) ≠ [] := by simp
    refine gIx_neg (x := tsD ((t :: rs).getLast (by simp))) ?_ (q _ ?_)
    · rw [List.getLast?_map]
      rw [List.nil_append, List.getLast?_eq_some_getLast (by simp : (t :: rs) ≠ [])]; rfl
    · rw [if_pos rfl, List.nil_append]
      unfold lastO
      rw [List.getLast?_eq_some_getLast (by simp : (t :: rs) ≠ [])]; rfl
  | cons d dn =>
    have hl : ((d :: dn).length : Int) - 1 = ((dn.length : Nat) : Int) := by rw [List.length_cons]; omega
    rw [hl]
    refine gIx_nat (d := tsD ((d :: dn).getLast (by simp))) ?_ (q _ ?_)
    · rw [List.getElem?_map, List.getElem?_append_left (by rw [List.length_cons]; omega), List.getLast_eq_getElem, List.getElem?_eq_getElem (by rw [List.length_cons]; omega)]
      rfl
    · rw [if_neg (by simp)]
      unfold lastO
      rw [List.getLast?_eq_some_getLast (by simp : (d :: dn) ≠ [])]; rfl
theorem at_ts {dn rs : List Tst} {t : Tst} {R : D → Prop} (q : R (tsD t)) : gIx (.lst ((dn ++ t :: rs).map tsD)) (.int (dn.length : Int)) R := gIx_nat (by rw [List.getElem?_map, List.getElem?_append_right (Nat.le_refl _), Nat.sub_self]; rfl) q
theorem ahead_snoc {r dn : List Tst} {t : Tst} : ahead r (dn ++ [t]) = t.1 := by
  unfold ahead
  rw [if_neg (by simp)]
  unfold lastO
  simp
theorem chk_cons {p : Str} {sn : List Str} {t : Tst} {r : List Tst} : chk p sn (t :: r) = (decide (t.2.1 = p) && !decide (t.2.1 ∈ sn) && chk t.1 (sn ++ [t.2.1]) r) := by rw [chk]
theorem gA_some_iff {β : Type} {l : List (Str × β)} {k : Str} : (gA l k).isSome = decide (k ∈ l.map (·.1)) := by
  by_cases h : k ∈ l.map (·.1)
  · rw [decide_eq_true h]
    cases q : gA l k with
    | none => exact absurd h (gA_none.mp q)
    | some v => rfl
  · rw [decide_eq_false h, gA_none.mpr h]; rfl
def w_ring_back : BSpec := fun _ ds R => ∃ es n la ed node j, ds = [ed, .lst (la.map optD), natD node] ∧ isSeq ed (edsD es) ∧ LaOk es n la ∧ node < n ∧ j ≤ n ∧ PP es la (j + 1) node node ∧
  ∀ is, is ≠ [] → Wk es node is node → (∀ i ∈ is, ∃ v, v < n ∧ lf la v = some i) → is.length ≤ n + 1 → R (.lst (is.map natD))
def w_ring_among : BSpec := fun B ds R => ∃ es n la ed, ds = [ed, .lst (la.map optD)] ∧ isSeq ed (edsD es) ∧ LaOk es n la ∧ ((∀ v, v < n → ∃ d, Gr es la d v) → R .non) ∧ ∀ node is, is ≠ [] → Wk es node is node → (∀ i ∈ is, ∃ v, v < n ∧ lf la v = some i) → is.length ≤ n + 1 → R (.lst (is.map natD))
def w_prices_or_ring : BSpec := fun B ds R => ∃ es n ed, ds = [natD n, ed] ∧ isSeq ed (edsD es) ∧ GOk es n ∧ (∀ ps : List Int, ps.length = n → (∀ k, ¬ CN es k) → R (.tup [.lst (ps.map .int), .non])) ∧ ∀ (ps : List Int) node is, ps.length = n → is ≠ [] → Wk es node is node → sm es is < 0 → is.length ≤ n + 1 → R (.tup [.lst (ps.map .int), .lst (is.map natD)])
def w_edges_leaving : BSpec := fun B ds R => ∃ es n ed ps, ds = [natD n, ed, .lst (ps.map .int)] ∧ isSeq ed (edsD es) ∧ GOk es n ∧ ps.length = n ∧ ∀ lv, LvOk (red (pf ps) es) n lv → R (lvD lv)
def w_next_layer : BSpec := fun B ds R => ∃ gs n lv l b, ds = [lvD lv, layD l, .lst (b.map .int)] ∧ Wf gs n ∧ n ≤ 100 ∧ LvOk gs n lv ∧ StepOk n b l ∧ b.length = n ∧ R (layD (nextL lv b l))
def w_closed_walk : BSpec := fun B ds R => ∃ es p n ed lv s size, ds = [ed, lvD lv, natD s, natD size] ∧ isSeq ed (edsD es) ∧ GOk es n ∧ LvOk (red p es) n lv ∧ s < n ∧ 1 ≤ size ∧ size ≤ 200 ∧ s ∈ (lev lv n s size).1.map (·.1) ∧ ∀ is, is.length = size → is ≠ [] → Wk es s is s → sm es is < 0 → R (.lst (is.map natD))
def w_short_ring : BSpec := fun B ds R => ∃ es n ed, ds = [natD n, ed] ∧ isSeq ed (edsD es) ∧ GOk es n ∧ ((∀ k, ¬ CN es k) → R .non) ∧ ∀ s is, Least es s is → R (.lst (is.map natD))
def w_tests_of : BSpec := fun B ds R => ∃ (cs : List Cond) (cd : D), ds = [cd] ∧ isSeq cd (cs.map cnD) ∧ cs.length ≤ 100 ∧ R (.lst ((tests cs).map tsD))
def w_names_of : BSpec := fun B ds R => ∃ (cs : List Cond) (cd : D), ds = [cd] ∧ isSeq cd (cs.map cnD) ∧ CsOk cs ∧ R (.lst ((names cs).map .str))
def w_pool_of : BSpec := fun B ds R => ∃ (cs : List Cond) (cd : D) (nm : List Str), ds = [cd, .lst (nm.map .str)] ∧ isSeq cd (cs.map cnD) ∧ cs.length ≤ 100 ∧ nm.length ≤ 100 ∧ R (.lst ((pool (tests cs) nm).map tsD))
def w_numbered : BSpec := fun B ds R => ∃ (ps : List Tst), ds = [.lst (ps.map tsD)] ∧ ps.length ≤ 100 ∧ R (sT natD (nums ps).zipIdx)
def w_edges_of : BSpec := fun B ds R => ∃ (ps : List Tst) (nu : List Str), ds = [.lst (ps.map tsD), sT natD nu.zipIdx] ∧ ps.length ≤ 100 ∧ (∀ t ∈ ps, t.1 ∈ nu ∧ t.2.1 ∈ nu) ∧ R (.lst (edsD (ps.map fun t => (nu.idxOf t.2.1, nu.idxOf t.1, t.2.2))))
def w_law_name : BSpec := fun B ds R => ∃ (b : Addr) (taken : List Str), B.head? = some b ∧ ds = [.raw (.ref b), .lst (taken.map .str)] ∧ ∀ s : Str, strOk s = true → s ≠ "" ∧ s.length ≤ 8 → R (.str s)
def w_law_names : BSpec := fun B ds R => ∃ (b : Addr) (n : Nat), B.head? = some b ∧ ds = [.raw (.ref b), natD n] ∧ n ≤ 100 ∧ ∀ ss : List Str, ss.length = n → (∀ s ∈ ss, strOk s = true ∧ s ≠ "" ∧ s.length ≤ 8) → R (.lst (ss.map .str))
def w_law_condition : BSpec := fun B ds R => ∃ (b : Addr) (nm : List Str) (top : Nat), B.head? = some b ∧ ds = [.raw (.ref b), .lst (nm.map .str), natD top] ∧ nm ≠ [] ∧ nm.length ≤ 4 ∧ top ≤ 9999 ∧ ∀ c, CIn ("" :: nm) c → R (cnD c)
def w_law_used : BSpec := fun B ds R => ∃ (cs : List Cond), ds = [.lst (cs.map cnD)] ∧ CsOk cs ∧ R (.lst ((names cs).map .str))
def w_law_lacked : BSpec := fun B ds R => ∃ (cs : List Cond), ds = [.lst (cs.map cnD)] ∧ CsOk cs ∧ R (.lst ((lacked cs).map .str))
def w_law_closed : BSpec := fun B ds R => ∃ (ts : List Tst) (nm : List Str), ds = [.lst (ts.map tsD), .lst (nm.map .str)] ∧ (("" : Str) :: nm).Nodup ∧ nm.length ≤ 50 ∧ nm.mergeSort leS = nm ∧ (∀ n ∈ nm, strOk n = true) ∧ (∀ t ∈ ts, t.1 ∈ ("" : Str) :: nm ∧ t.2.1 ∈ ("" : Str) :: nm) ∧ R (if neg ("" :: nm) (clo ("" :: nm) ts) = true then .non else smD ("" :: nm) (clo ("" :: nm) ts))
def w_ring_of : BSpec := fun B ds R => ∃ (ps : List Tst), ds = [.lst (ps.map tsD)] ∧ PsOk ps ∧ ((∀ k, ¬ CNS ps k) → R .non) ∧ ∀ r : List Tst, judge ps r = true → FewS ps r.length → r.length ≤ 100 → R (.lst (r.map tsD))
def w_ring_stands : BSpec := fun B ds R => ∃ (ps r : List Tst), ds = [.lst (ps.map tsD), .lst (r.map tsD)] ∧ PsOk ps ∧ r.length ≤ 200 ∧ (∀ t ∈ r, TOk t) ∧ R (.bl (judge ps r))
def w_lacking_of : BSpec := fun B ds R => ∃ (cs : List Cond) (cd : D), ds = [cd] ∧ isSeq cd (cs.map cnD) ∧ CsOk cs ∧ ∀ ls : List Str, (∀ x, x ∈ ls ↔ x ∈ lacked cs) → R (.lst (ls.map .str))
def w_tested_lacking : BSpec := fun B ds R => ∃ (cs : List Cond), ds = [.lst (cs.map cnD)] ∧ CsOk cs ∧ R (fbD cs)
def w_clash_of : BSpec := fun B ds R => ∃ (cs : List Cond), ds = [.lst (cs.map cnD)] ∧ CsOk cs ∧ ∀ d, Told cs d → R d
def w_shows_clash : BSpec := fun B ds R => ∃ (cs : List Cond) (cd : D) (p : Pap), ds = [cd, papD p] ∧ isSeq cd (cs.map cnD) ∧ CsOk cs ∧ PapOk p ∧ R (.bl (shown cs p))
def w_law_student : BSpec := fun B ds R => ∃ (b : Addr) (nm : List Str) (top : Nat), B.head? = some b ∧ ds = [.raw (.ref b), .lst (nm.map .str), natD top] ∧ (∀ n ∈ nm, n ≠ "") ∧ nm.length ≤ 4 ∧ top ≤ 9999 ∧ ∀ st, StuOk st nm → R (sT .int st)
def w_law_between : BSpec := fun B ds R => ∃ (nm : List Str) (st : List (Str × Int)) (x y : Str) (sl : Int), ds = [sT .int st, .str x, .str y, .int sl] ∧ StuOk st nm ∧ x ∈ ("" : Str) :: nm ∧ y ∈ ("" : Str) :: nm ∧ ∀ c : Int, R (tsD (x, y, c))
def w_law_round : BSpec := fun B ds R => ∃ (b : Addr) (nm : List Str) (st : List (Str × Int)), B.head? = some b ∧ ds = [.raw (.ref b), .lst ((("" : Str) :: nm).map .str), sT .int st] ∧ nm ≠ [] ∧ nm.length ≤ 4 ∧ StuOk st nm ∧ ∀ r : List Tst, r.length ≤ 5 → (∀ t ∈ r, t.1 ∈ ("" : Str) :: nm ∧ t.2.1 ∈ ("" : Str) :: nm) → R (.lst (r.map tsD))
def w_law_no_bound : BSpec := fun B ds R => ∃ (t : Tst), ds = [tsD t] ∧ R (.bl (noB t))
def w_law_alternative : BSpec := fun B ds R => ∃ (b : Addr) (nm : List Str) (top : Nat) (st : List (Str × Int)), B.head? = some b ∧ ds = [.raw (.ref b), .lst (nm.map .str), natD top, sT .int st] ∧ nm ≠ [] ∧ nm.length ≤ 4 ∧ top ≤ 9999 ∧ StuOk st nm ∧ ∀ cs : List Cond, cs.length ≤ 6 → (∀ c ∈ cs, CIn ("" :: nm) c) → R (.lst (cs.map cnD))
def w_law_pool : BSpec := fun B ds R => ∃ (cs : List Cond), ds = [.lst (cs.map cnD)] ∧ CsOk cs ∧ R (.lst ((poolC cs).map tsD))
def w_law_shortest : BSpec := fun B ds R => ∃ (ps : List Tst), ds = [.lst (ps.map tsD)] ∧ PsOk ps ∧ ((∀ k, ¬ CNS ps k) → R .non) ∧ ∀ r : List Tst, FewS ps r.length → (∀ t ∈ r, t ∈ ps) → r.length ≤ 50 → R (.lst (r.map tsD))
def w_law_is_test : BSpec := fun B ds R => ∃ (t : Tst), ds = [tsD t] ∧ R (.bl true)
def w_law_ring : BSpec := fun B ds R => ∃ (ps r : List Tst), ds = [.lst (ps.map tsD), .lst (r.map tsD)] ∧ PsOk ps ∧ r.length ≤ 200 ∧ (∀ t ∈ r, TOk t) ∧ R (.bl (judge ps r))
def w_law_due : BSpec := fun B ds R => ∃ (cs : List Cond), ds = [.lst (cs.map cnD)] ∧ CsOk cs ∧ ∀ d, Due cs d → R d
def w_law_right : BSpec := fun B ds R => ∃ (cs : List Cond) (due told : D), ds = [.lst (cs.map cnD), due, told] ∧ CsOk cs ∧ Due cs due ∧ Told cs told ∧ R (.bl true)
def w_law_shown : BSpec := fun B ds R => ∃ (cs : List Cond) (p : Pap), ds = [.lst (cs.map cnD), .lst ((poolC cs).map tsD), papD p] ∧ CsOk cs ∧ PapOk p ∧ R (.bl (shown cs p))
def w_law_papers : BSpec := fun B ds R => ∃ (b : Addr) (cs : List Cond) (nm : List Str), B.head? = some b ∧ ds = [.raw (.ref b), .lst (cs.map cnD), .lst (nm.map .str)] ∧ CsOk cs ∧ nm ≠ [] ∧ nm.length ≤ 4 ∧ (∀ n ∈ nm, strOk n = true ∧ n.length ≤ 8) ∧ ∀ pp : List Pap, pp.length ≤ 20 → (∀ p ∈ pp, PapOk p) → R (.lst (pp.map papD))
def w_law_judged : BSpec := fun B ds R => ∃ (cs : List Cond) (p : Pap), ds = [.lst (cs.map cnD), .lst ((poolC cs).map tsD), papD p] ∧ CsOk cs ∧ PapOk p ∧ R (.bl true)
def w_law_asked : BSpec := fun B ds R => ∃ (cs : List Cond) (pp : List Pap), ds = [.lst (cs.map cnD), .lst (pp.map papD)] ∧ CsOk cs ∧ pp.length ≤ 20 ∧ (∀ p ∈ pp, PapOk p) ∧ R (.bl true)
def w_law_more_lacks : BSpec := fun B ds R => ∃ (b : Addr) (cs : List Cond) (nm : List Str), B.head? = some b ∧ ds = [.raw (.ref b), .lst (cs.map cnD), .lst (nm.map .str)] ∧ (∀ c ∈ cs, CIn ("" :: nm) c) ∧ (∀ n ∈ nm, strOk n = true ∧ n ≠ "") ∧ nm ≠ [] ∧ nm.length ≤ 4 ∧ ∀ qs : List Cond, qs.length ≤ 6 → (∀ c ∈ qs, CIn ("" :: nm) c) → R (.lst (qs.map cnD))
end GK

namespace GK
open PySem PySem.Spec PyProof.Rows L2
open N2 N7
local macro_rules | `(tactic| and_intros) => `(tactic| try simp only [ownLst, ownObj, mTake, mOf, fAndV, fOrV, fArgs, fCons, fNil, fVar_0, fVar_s, fUn, fBin, fBool, startE, envOf, slot, gSeq, frzE, gComp, gCompD, wipe_nil, wipe_cons, List.map_cons, List.map_nil, List.cons_append, List.nil_append, List.append_nil, true_and, and_true, List.set_cons_zero, List.set_cons_succ, List.length_cons, List.length_nil, List.replicate_succ, List.replicate_zero, Nat.reduceSub, Nat.reduceAdd, Nat.reduceLT, DEnds.fn, bOf_bl, eq_self, reduceIte, Bool.false_eq_true, gNotV_bl, Bool.not_true, Bool.not_false, g2I_int, g2I0_int, g1I_int, gLen_lst, gLen_tup, gInt_int, gMax2_int, gMin2_int, gIsN_non, gIsN_obj, gIsN_dT, gIsN_dK, gIsN_int, xsOf_lst, tsOf_tup, gIx_t0, gIx_t1, gIx_l0, gIx_l1, gIx_l2, gEqA_int, gEqA_str, gEqA_bl, gTup, gLst, Option.isSome_some, Bool.false_xor, Bool.true_xor, gFor, gNegI, gEqA_no, gIsN_lst, gIsN_tup, gIx_t2, Bool.not_not, dnE, dnL, decide_true, decide_false, gListL_lst, gTupL_lst, gListU_lst, gListU_tup, isi_tup_tup, isi_tup_lst, isi_tup_str, isi_tup_int, isi_tup_bl, isi_tup_dK, isi_lst_tup, isi_lst_lst, isi_lst_str, isi_lst_int, isi_lst_bl, isi_lst_dK, isi_str_tup, isi_str_lst, isi_str_str, isi_str_int, isi_str_bl, isi_str_dK, isi_int_tup, isi_int_lst, isi_int_str, isi_int_int, isi_int_bl, isi_int_dK, isi_bl_tup, isi_bl_lst, isi_bl_str, isi_bl_int, isi_bl_bl, isi_bl_dK, isi_non_tup, isi_non_lst, isi_non_str, isi_non_int, isi_non_bl, isi_non_dK, isi_dK_tup, isi_dK_lst, isi_dK_str, isi_dK_int, isi_dK_bl, isi_dK_dK, iOf_int, graphD, edD, optD, pvD, lvD, lvI, trD, Bool.xor_false, Bool.not_false, Bool.not_true, iOf_int, graphD, edD, optD, pvD, lvD, lvI, trD, Bool.xor_false, Bool.not_false, Bool.not_true, gIxT_1, ts_0, ts_1, ts_2, ts_3, lk_0, lk_1, sl_ts, sl_lk, cn_most, cn_lack, d_lm, d_ml, gSlS_str, gCatS_str, gRepS_str, gFind_str, prS, gIsN_str, gLenD_sT, gLenD_pT, gIsN_sT, gIsN_pT, gIsN_smD, emD, Bool.xor_false, gLenD_dK, gLenD_dT, gIsB_bl, papD, Bool.true_and, Bool.false_and, Bool.and_true, Bool.or_false, Bool.or_true, d_rl, d_sl, d_sr, d_lr, tq_0, tq_1])
section
variable {P : Program} {w : World} {K : PySem.W.Frag} {mg : Str → Option Value} {base : Heap}
abbrev s_ring_back : Stmt := topS 1
theorem sc_ring_back : FnScope ["edges", "last", "node", "ring"] ["edges", "last", "node"] (defScope s_ring_back) := ⟨rfl, rfl, rfl, by decide +kernel, rfl, by decide +kernel, by decide +kernel⟩
theorem ok_ring_back {f : Addr} {fd : FuncData} (F : Fun K "ring_back" "ring_back" s_ring_back f fd) (T : Bi mg)  : FnOk P w K mg base CX0 1 f fd ["edges", "last", "node"] (spD K (.own 1) w_ring_back) := by
  refine Fun_okD F sc_ring_back (fun _ _ _ h => by obtain ⟨_, _, _, _, _, _, e, _, _, _, _, _, _⟩ := h; rw [e]; rfl) fun B cdv A outer s H E hr => ⟨_, (ds_cons (ds_setM 3 1 sc_ring_back.nd rfl (by first | exact Or.inl rfl | exact Or.inr rfl) (by decide) (dm_of (de_lst 0 (da_cons (m := .own 0) (de_at (de_v 1) (de_v 2)) da_nil))))
(ds_cons (ds_while PassesOwn.never (dt_ne (de_at (de_at (de_v 0) (de_at (de_var 3 1) (de_neg (m := .rd) (de_int (m := .rd))))) (de_int (m := .rd))) (de_v 2))
(ds_one (ds_exprM (m := .own 0) (dm_append 3 0 (dm_of (de_at (de_v 1) (de_at (de_at (de_v 0) (de_at (de_var 3 1) (de_neg (m := .rd) (de_int (m := .rd))))) (de_int (m := .rd)))))))))
(ds_one (ds_frz 3 (ds_retM (dm_of (de_revL (de_v 3)))))))), fun ds R ⟨es, n, la, ed, node, j, e, hs, ok, hn, hj, hp, hR⟩ => ?_⟩
  subst e
  and_intros
  obtain ⟨i0, u0, c0, el, ee, hp⟩ := hp
  refine gIx_nat (la_get (by rw [ok.ll]; exact hn)) ?_
  rw [el]
  and_intros
  refine ⟨by decide, ?_⟩
  refine ⟨fun m ρ => ∃ (r : List Nat) (i x : Nat) (c : Nat × Int), m ≤ j ∧ r.length + m = j ∧ (∀ y ∈ r ++ [i], ∃ v, v < n ∧ lf la v = some y) ∧ es[i]? = some (x, c) ∧ Wk es c.1 r.reverse node ∧ PP es la m x node ∧ ρ = [some (0, ed), some (0, .lst (la.map optD)), some (0, natD node), some (1, .lst (r.map natD ++ [natD i]))], ⟨j, [], i0, u0, (node, c0), Nat.le_refl _, by simp, fun y hi => ?_, ee, (show node = node from rfl), hp, rfl⟩, ?_⟩
  · rw [List.mem_singleton.mp hi]
    exact ⟨node, hn, el⟩
  · rintro m ρ ⟨r, i, x, c, h1, h2, h3, h4, h5, h6, rfl⟩
    and_intros
    refine gIx_last ?_
    refine gIx_seq hs (edsD_get h4) ?_
    and_intros
    by_cases hx : x = node
    · rw [decide_eq_true hx]
      and_intros
      have hw : Wk es node (i :: r.reverse) node := ⟨c.1, c.2, by rw [h4, ← hx], h5⟩
      have := hR (i :: r.reverse) (by simp) hw (fun y hy => h3 y (by
        rcases List.mem_cons.mp hy with z | z
        · simp [z]
        · simp [List.mem_reverse.mp z])) (by rw [List.length_cons, List.length_reverse]; omega)
      rw [List.map_cons, List.map_reverse] at this
      rw [List.reverse_append]
      exact this
    · rw [decide_eq_false hx]
      and_intros
      cases m with
      | zero => exact absurd h6 hx
      | succ m =>
        obtain ⟨i', u', c', e1, e2, h6⟩ := h6
        refine gIx_last ?_
        refine gIx_seq hs (edsD_get h4) ?_
        and_intros
        refine gIx_nat (la_get (by rw [ok.ll]; exact (ok.wf.at h4).1)) ?_
        rw [e1]
        refine ⟨?_, m, Nat.lt_succ_self m, r ++ [i], i', u', (x, c'), by omega, by rw [List.length_append, List.length_singleton]; omega, fun y hy => ?_, e2, ?_, h6, ?_⟩
        · rw [List.length_append, List.length_map, List.length_singleton, szL]
          have := ok.n0
          omega
        · rcases List.mem_append.mp hy with z | z
          · exact h3 y z
          · rw [List.mem_singleton.mp z]
            exact ⟨x, (ok.wf.at h4).1, e1⟩
        · rw [List.reverse_append]
          exact ⟨c.1, c.2, h4, h5⟩
        · rw [List.map_append]; rfl
abbrev s_ring_among : Stmt := topS 2
theorem sc_ring_among : FnScope ["edges", "last", "seen", "start", "node"] ["edges", "last"] (defScope s_ring_among) := ⟨rfl, rfl, rfl, by decide +kernel, rfl, by decide +kernel, by decide +kernel⟩
theorem ok_ring_among {f : Addr} {fd : FuncData} (F : Fun K "ring_among" "ring_among" s_ring_among f fd) (T : Bi mg) (c_ring_back : Cal P w K mg base "ring_back" 1 ["edges", "last", "node"] (.own 1) [] w_ring_back) : FnOk P w K mg base CX0 2 f fd ["edges", "last"] (spD K (.own 1) w_ring_among) := by
  refine Fun_okD F sc_ring_among (fun _ _ _ h => by obtain ⟨_, _, _, _, e, _, _, _, _⟩ := h; rw [e]; rfl) fun B cdv A outer s H E hr => ⟨_, (ds_cons (ds_setM 2 1 sc_ring_among.nd rfl (by first | exact Or.inl rfl | exact Or.inr rfl) (by decide) (dm_of (de_dnewK 0)))
(ds_cons (ds_for PassesOwn.never rfl (di_range T.range_ (de_len (m := .rd) T.len_ (de_v 1))) (dg_name 3 sc_ring_among.nd rfl (by first | exact Or.inl rfl | exact Or.inr rfl) (by decide))
(ds_cons (ds_setM 4 0 sc_ring_among.nd rfl (by first | exact Or.inl rfl | exact Or.inr rfl) (by decide) (dm_of (de_v 3)))
(ds_cons (ds_while PassesOwn.never (dt_bool (dw_and (dt_dnotin (hr.u 1) (de_v 4) (de_var 2 1)) (dw_and1 (dt_isnot (de_at (de_v 1) (de_v 4)) (de_non (m := .rd))))))
(ds_cons (ds_putK 2 (hr.u 1) (dm_of (de_v 3)) (de_v 4))
(ds_one (ds_setM 4 0 sc_ring_among.nd rfl (by first | exact Or.inl rfl | exact Or.inr rfl) (by decide) (dm_of (de_at (de_at (de_v 0) (de_at (de_v 1) (de_v 4))) (de_int (m := .rd))))))))
(ds_one (ds_if (dt_eq (de_dget1 (hr.u 1) (de_var 2 1) (de_rd (de_v 4))) (de_v 3))
(ds_one (ds_retM (dm_of (de_C c_ring_back hr (da_cons (m := .own 0) (de_v 0) (da_cons (m := .own 0) (de_v 1) (da_cons (m := .own 0) (de_v 4) da_nil)))))))
ds_nil)))))
(ds_one (ds_retM (dm_of (de_non (m := .own 1))))))), fun ds R ⟨es, n, la, ed, e, hs, ok, hN, hR⟩ => ?_⟩
  subst e
  and_intros
  rw [List.length_map, ok.ll]
  refine rng_go (by have := ok.n0; omega) ?_
  refine forD_go (fun xs ρ => ∃ (k m : Nat) (sn : List (Nat × Nat)) (v3 v4 : Option (Nat × D)), k + m = n ∧ xs = (List.range' k m).map natD ∧ AO es la n k sn ∧ ρ = [some (0, ed), some (0, .lst (la.map optD)), some (1, seenD sn), v3, v4]) ?_ ?_ _ _ ⟨0, n, [], none, none, by omega, rfl, AO.start, rfl⟩
  · rintro x r ρ ⟨k, m, sn, v3, v4, hk, ex, ao, rfl⟩ N hN2
    cases m with
    | zero => cases ex
    | succ m =>
      rw [List.range'_succ, List.map_cons] at ex
      injection ex with ex1 ex2
      subst ex1
      refine ⟨_, rfl, ?_⟩
      and_intros
      refine ⟨fun m ρ => ∃ (sn : List (Nat × Nat)) (node : Nat), AI es la n k sn node ∧ m + sn.length = n ∧ ρ = [some (0, ed), some (0, .lst (la.map optD)), some (1, seenD sn), some (0, natD k), some (0, natD node)], ⟨n - sn.length, sn, k, ao.into (by omega), by have := ao.len; omega, rfl⟩, ?_⟩
      rintro m1 ρ ⟨sn, node, ai, hm1, rfl⟩
      and_intros
      refine din_go ?_
      have hlt : node < la.length := by rw [ok.ll]; exact ai.lt
      by_cases hc : gt sn node = none ∧ lf la node ≠ none
      · obtain ⟨c1, c2⟩ := hc
        obtain ⟨i, ei⟩ := Option.ne_none_iff_exists'.mp c2
        obtain ⟨u, c, ee⟩ := ok.it node i ai.lt ei
        rw [c1]
        and_intros
        refine gIx_nat (la_get hlt) ?_
        rw [ei]
        and_intros
        refine ⟨ownDK_nT rfl trivial, _, rfl, ownDK_nT (f := natD) rfl ⟨?_, ?_⟩⟩
        · have := ai.len
          have := ok.n0
          rw [List.length_map, szL]; omega
        rw [putD_nat]
        and_intros
        refine gIx_nat (la_get hlt) ?_
        rw [ei]
        refine gIx_seq hs (edsD_get ee) ?_
        and_intros
        have hn : node ∉ sn.map (·.1) := gt_none.mp c1
        have hr := ai.room hn
        exact ⟨m1 - 1, by omega, _, u, ai.step ok.wf hn ei ee, by rw [ins_new hn, List.length_append, List.length_singleton]; omega, rfl⟩
      · have hend : node ∈ sn.map (·.1) ∨ lf la node = none := by
          cases q : gt sn node with
          | none => exact .inr (Decidable.byContradiction fun z => hc ⟨q, z⟩)
          | some w => exact .inl (Decidable.byContradiction fun z => by rw [gt_none.mpr z] at q; cases q)
        rcases q : gt sn node with _ | w
        case' none =>
          and_intros
          refine gIx_nat (la_get hlt) ?_
          rw [hend.elim (fun z => absurd z (gt_none.mp q)) id]
        all_goals
          and_intros
          refine ⟨trivial, dget1_go ?_⟩
          rw [q]
        · simp only [Option.map_none, Option.getD_none]
          and_intros
          exact hN2 _ ⟨k + 1, m, sn, _, _, by omega, ex2, ai.out hend (by rw [q]; simp), rfl⟩
        · simp only [Option.map_some, Option.getD_some]
          and_intros
          by_cases hw : w = k
          · rw [decide_eq_true hw]
            and_intros
            obtain ⟨j, j1, j2, pp⟩ := ai.ring (by rw [q, hw])
            refine ⟨es, n, la, ed, node, j - 1, rfl, hs, ok, ai.lt, by omega, by rw [show j - 1 + 1 = j by omega]; exact pp, fun is a b c d => hR node is a b c d⟩
          · rw [decide_eq_false hw]
            and_intros
            exact hN2 _ ⟨k + 1, m, sn, _, _, by omega, ex2, ai.out hend (by rw [q]; simp [hw]), rfl⟩
  · rintro ρ ⟨k, m, sn, v3, v4, hk, ex, ao, rfl⟩
    cases m with
    | succ m => cases ex
    | zero =>
      have hk : k = n := hk
      subst hk
      exact hN ao.done
abbrev s_prices_or_ring : Stmt := topS 3
theorem sc_prices_or_ring : FnScope ["count", "edges", "prices", "last", "_", "falls", "index", "tail", "head", "cost", "ring"] ["count", "edges"] (defScope s_prices_or_ring) := ⟨rfl, rfl, rfl, by decide +kernel, rfl, by decide +kernel, by decide +kernel⟩
theorem ok_prices_or_ring {f : Addr} {fd : FuncData} (F : Fun K "prices_or_ring" "prices_or_ring" s_prices_or_ring f fd) (T : Bi mg) (c_ring_among : Cal P w K mg base "ring_among" 2 ["edges", "last"] (.own 1) [] w_ring_among) : FnOk P w K mg base CX0 3 f fd ["count", "edges"] (spD K (.own 2) w_prices_or_ring) := by
  refine Fun_okD F sc_prices_or_ring (fun _ _ _ h => by obtain ⟨_, _, _, e, _, _, _, _⟩ := h; rw [e]; rfl) fun B cdv A outer s H E hr => ⟨_, (ds_cons (ds_setM 2 1 sc_prices_or_ring.nd rfl (by first | exact Or.inl rfl | exact Or.inr rfl) (by decide) (dm_of (de_rep (de_frz (de_lst 0 (da_cons (m := .own 0) (de_int (m := .own 0)) da_nil))) (de_v 0))))
(ds_cons (ds_setM 3 1 sc_prices_or_ring.nd rfl (by first | exact Or.inl rfl | exact Or.inr rfl) (by decide) (dm_of (de_rep (de_frz (de_lst 0 (da_cons (m := .own 0) (de_non (m := .own 0)) da_nil))) (de_v 0))))
(ds_cons (ds_for PassesOwn.never rfl (di_range T.range_ (de_v 0)) (dg_name 4 sc_prices_or_ring.nd rfl (by first | exact Or.inl rfl | exact Or.inr rfl) (by decide))
(ds_cons (ds_setM 5 0 sc_prices_or_ring.nd rfl (by first | exact Or.inl rfl | exact Or.inr rfl) (by decide) (dm_of (de_bl (m := .own 0))))
(ds_cons (ds_for PassesOwn.never rfl (di_enum T.enumerate_ (de_v 1)) (dg_tup2 rfl (dg_name 6 sc_prices_or_ring.nd rfl (by first | exact Or.inl rfl | exact Or.inr rfl) (by decide)) (dg_tup rfl (dgs_cons 7 sc_prices_or_ring.nd rfl (by first | exact Or.inl rfl | exact Or.inr rfl) (by decide) (dgs_cons 8 sc_prices_or_ring.nd rfl (by first | exact Or.inl rfl | exact Or.inr rfl) (by decide) (dgs_cons 9 sc_prices_or_ring.nd rfl (by first | exact Or.inl rfl | exact Or.inr rfl) (by decide) dgs_nil)))))
(ds_one (ds_if (dt_lt (de_add (m := .rd) (de_at (de_var 2 1) (de_v 7)) (de_v 9)) (de_at (de_var 2 1) (de_v 8)))
(ds_cons (ds_setL 2 0 (dm_of (de_add (m := .own 0) (de_at (de_var 2 1) (de_v 7)) (de_v 9))) (de_v 8))
(ds_cons (ds_setL 3 0 (dm_of (de_v 6)) (de_v 8))
(ds_one (ds_setM 5 0 sc_prices_or_ring.nd rfl (by first | exact Or.inl rfl | exact Or.inr rfl) (by decide) (dm_of (de_bl (m := .own 0)))))))
ds_nil)))
(ds_cons (ds_if (dt_not (dt_val (de_v 5)))
(ds_one (ds_retM (dm_tupTN 2 1)))
ds_nil)
(ds_cons (ds_setM 10 1 sc_prices_or_ring.nd rfl (by first | exact Or.inl rfl | exact Or.inr rfl) (by decide) (dm_of (de_CR (n := 1) c_ring_among hr (da_cons (m := .rd) (de_rd (de_v 1)) (da_cons (m := .rd) (de_rd (de_var 3 1)) da_nil)))))
(ds_one (ds_if (dt_isnot (de_var 10 1) (de_non (m := .rd)))
(ds_one (ds_retM (dm_tupTT 2 10 1)))
ds_nil)))))))
(ds_one (ds_retM (dm_tupTN 2 1)))))), fun ds R ⟨es, n, ed, e, hs, ok, hN, hR⟩ => ?_⟩
  subst e
  have n1 := ok.n0
  and_intros
  refine ⟨by decide, rep_go (by rw [szL]; omega) ⟨by decide, rep_go (by rw [szL]; omega) (rng_go (by omega) ?_)⟩⟩
  rw [show List.replicate n (D.int 0) = (List.replicate n (0 : Int)).map D.int from by rw [List.map_replicate], show List.replicate n D.non = (List.replicate n (none : Option Nat)).map optD from by rw [List.map_replicate]; rfl]
  refine forD_go (fun xs ρ => ∃ (k m : Nat) (ps : List Int) (la : List (Option Nat)) (v4 v5 v6 v7 v8 v9 v10 : Option (Nat × D)), k + m = n ∧ xs = (List.range' k m).map natD ∧ Inv es n ps la ∧ HI es n k ps ∧ (0 < k → ∀ v, v < n → ∃ d, Gr es la d v) ∧
    ρ = [some (0, natD n), some (0, ed), some (1, .lst (ps.map .int)), some (1, .lst (la.map optD)), v4, v5, v6, v7, v8, v9, v10]) ?_ ?_ _ _ ⟨0, n, _, _, none, none, none, none, none, none, none, by omega, rfl, Inv.start es n, HI.start es n, fun z => absurd z (Nat.lt_irrefl _), rfl⟩
  · rintro x r ρ ⟨k, m, ps, la, v4, v5, v6, v7, v8, v9, v10, hk, ex, hi, hh, hg, rfl⟩ N hN2
    cases m with
    | zero => cases ex
    | succ m =>
      rw [List.range'_succ, List.map_cons] at ex
      injection ex with ex1 ex2
      subst ex1
      refine ⟨_, rfl, ?_⟩
      and_intros
      refine enOf_seq hs ?_
      refine forD_go (fun xs ρ => ∃ (i : Nat) (ps' : List Int) (la' : List (Option Nat)) (fl : Bool) (v6 v7 v8 v9 : Option (Nat × D)), xs = (enumL (edsD es)).drop i ∧ i ≤ es.length ∧ Rd es n ps ps' la' fl i ∧
        ρ = [some (0, natD n), some (0, ed), some (1, .lst (ps'.map .int)), some (1, .lst (la'.map optD)), some (0, natD k), some (0, .bl fl), v6, v7, v8, v9, v10]) ?_ ?_ _ _ ⟨0, ps, la, false, _, _, _, _, rfl, Nat.zero_le _, Rd.start hi, rfl⟩
      · rintro x r ρ ⟨i, ps', la', fl, w6, w7, w8, w9, ey, hil, rd, rfl⟩ N3 hN3
        obtain ⟨⟨u, v, c⟩, he, rfl, er⟩ := en_drop ey
        have hi2 : i < es.length := (List.getElem?_eq_some_iff.mp he).1
        obtain ⟨hu, hv⟩ := ok.wf.at he
        have gu := ps_get (ps := ps') (v := u) (by rw [rd.inv.lp]; exact hu)
        have gv := ps_get (ps := ps') (v := v) (by rw [rd.inv.lp]; exact hv)
        refine ⟨_, rfl, ?_⟩
        and_intros
        refine gIx_nat gu ?_
        and_intros
        refine gIx_nat gv ?_
        and_intros
        by_cases hlt : pf ps' u + c < pf ps' v
        · rw [decide_eq_true hlt]
          and_intros
          refine gIx_nat gu ?_
          and_intros
          refine ⟨v, by rw [List.length_map, rd.inv.lp]; exact ixN_nat hv, ?_⟩
          and_intros
          refine ⟨v, by rw [List.length_map, rd.inv.ll]; exact ixN_nat hv, ?_⟩
          and_intros
          refine hN3 _ ⟨i + 1, _, _, true, some (0, natD i), some (0, natD u), some (0, natD v), some (0, .int c), er, by omega, rd.relax ok.wf he hlt, ?_⟩
          rw [List.map_set, List.map_set]; rfl
        · rw [decide_eq_false hlt]
          and_intros
          exact hN3 _ ⟨i + 1, _, _, fl, _, _, _, _, er, by omega, rd.skip ok.wf he hlt, rfl⟩
      · rintro ρ ⟨i, ps', la', fl, w6, w7, w8, w9, ey, hil, rd, rfl⟩
        have hi3 : i = es.length := Nat.le_antisymm hil (en_end ey)
        subst hi3
        and_intros
        cases fl with
        | false =>
          and_intros
          exact hN ps' rd.inv.lp rd.none
        | true =>
          and_intros
          refine ⟨es, n, la', ed, rfl, hs, rd.inv.la ok.wf n1, fun G => ?_, fun node is i1 i2 i3 i4 => ?_⟩
          · refine ⟨rfl, ?_⟩
            and_intros
            exact hN2 _ ⟨k + 1, m, ps', la', _, _, _, _, _, _, _, by omega, ex2, rd.inv, hh.next ok.wf rd, fun _ => G, rfl⟩
          · refine ⟨flat_nats is, ?_⟩
            and_intros
            exact hR ps' node is rd.inv.lp i1 i2 (rd.inv.i2 node is i1 i2 i3) i4
  · rintro ρ ⟨k, m, ps, la, v4, v5, v6, v7, v8, v9, v10, hk, ex, hi, hh, hg, rfl⟩
    cases m with
    | succ m => cases ex
    | zero =>
      have hk : k = n := hk
      subst hk
      and_intros
      refine hN ps hi.lp fun j c => ?_
      by_cases h0 : k = 0
      · subst h0
        exact no_cn0 ok.wf j c
      · exact hh.absurd ok.wf (by omega) hi (hg (by omega))
abbrev s_edges_leaving : Stmt := topS 4
theorem sc_edges_leaving : FnScope ["count", "edges", "prices", "_", "leaving", "index", "tail", "head", "cost"] ["count", "edges", "prices"] (defScope s_edges_leaving) := ⟨rfl, rfl, rfl, by decide +kernel, rfl, by decide +kernel, by decide +kernel⟩
theorem ok_edges_leaving {f : Addr} {fd : FuncData} (F : Fun K "edges_leaving" "edges_leaving" s_edges_leaving f fd) (T : Bi mg)  : FnOk P w K mg base CX0 1 f fd ["count", "edges", "prices"] (spD K (.own 0) w_edges_leaving) := by
  refine Fun_okD F sc_edges_leaving (fun _ _ _ h => by obtain ⟨_, _, _, _, e, _, _, _, _⟩ := h; rw [e]; rfl) fun B cdv A outer s H E hr => ⟨_, (ds_cons (ds_setLc (own := [("_", 3)]) 4 1 rfl sc_edges_leaving.nd rfl rfl (by decide) (sw_true rfl rfl rfl rfl) (di_range T.range_ (de_v 0)) (blk_of ["count", "edges", "prices", "_", "leaving", "index", "tail", "head", "cost"] (defScope s_edges_leaving) rfl (by decide +kernel) (by decide +kernel) (by decide +kernel) (by decide +kernel)) (dgc_name 3 sc_edges_leaving.nd rfl) (hol_cons rfl (fun _ _ => rfl) hol_nil) (fun _ _ _ _ _ => dts_nil) (fun _ _ _ _ _ => (de_lst 0 da_nil)))
(ds_cons (ds_for PassesOwn.never rfl (di_enum T.enumerate_ (de_v 1)) (dg_tup2 rfl (dg_name 5 sc_edges_leaving.nd rfl (by first | exact Or.inl rfl | exact Or.inr rfl) (by decide)) (dg_tup rfl (dgs_cons 6 sc_edges_leaving.nd rfl (by first | exact Or.inl rfl | exact Or.inr rfl) (by decide) (dgs_cons 7 sc_edges_leaving.nd rfl (by first | exact Or.inl rfl | exact Or.inr rfl) (by decide) (dgs_cons 8 sc_edges_leaving.nd rfl (by first | exact Or.inl rfl | exact Or.inr rfl) (by decide) dgs_nil)))))
(ds_one (ds_exprM (m := .own 0) (dm_appendP 0 (dp_ix (dp_var 4) (de_v 6)) (de_tup (da_cons (m := .own 0) (de_v 5) (da_cons (m := .own 0) (de_v 7) (da_cons (m := .own 0) (de_sub (m := .own 0) (de_add (m := .rd) (de_v 8) (de_at (de_v 2) (de_v 6))) (de_at (de_v 2) (de_v 7))) da_nil))))))))
(ds_one (ds_frz 4 (ds_retM (dm_of (de_v 4))))))), fun ds R ⟨es, n, ed, ps, e, hs, ok, hl, hR⟩ => ?_⟩
  subst e
  have n1 := ok.n0
  and_intros
  refine rng_go (by omega) ?_
  refine compD_map (xs := List.range' 0 n) natD (fun _ => some (.lst [])) (fun k hk N hN => ⟨_, rfl, ?_⟩) (by rw [List.length_range', szL]; omega) ?_
  · and_intros
    exact ⟨by decide, hN⟩
  rw [fm_const, List.length_range']
  refine enOf_seq hs ?_
  rw [show List.replicate n (D.lst []) = (List.replicate n ([] : List (Nat × Nat × Int))).map lvI from by rw [List.map_replicate]; rfl]
  refine forD_go (fun xs ρ => ∃ (i : Nat) (lv : Lv) (v5 v6 v7 v8 : Option (Nat × D)), xs = (enumL (edsD es)).drop i ∧ i ≤ es.length ∧ LvK (red (pf ps) es) n i lv ∧ ρ = [some (0, natD n), some (0, ed), some (0, .lst (ps.map .int)), none, some (2, .lst (lv.map lvI)), v5, v6, v7, v8]) ?_ ?_ _ _ ⟨0, _, none, none, none, none, rfl, Nat.zero_le _, LvK.start _ n, rfl⟩
  · rintro x r ρ ⟨i, lv, v5, v6, v7, v8, ex, hi, L, rfl⟩ N hN
    obtain ⟨⟨u, v, c⟩, he, rfl, er⟩ := en_drop ex
    have hi2 : i < es.length := (List.getElem?_eq_some_iff.mp he).1
    obtain ⟨hu, hv⟩ := ok.wf.at he
    have gu := ps_get (ps := ps) (v := u) (by rw [hl]; exact hu)
    have gv := ps_get (ps := ps) (v := v) (by rw [hl]; exact hv)
    have gl := lv_get (lv := lv) (v := u) (by rw [L.len]; exact hu)
    refine ⟨_, rfl, ?_⟩
    and_intros
    refine atP_go (n := 1) rfl rfl ⟨_, _, u, rfl, rfl, by rw [List.length_map, L.len]; exact ixN_nat hu, atLst_go (n := 0) rfl (sub_ix gl) trivial, ?_⟩
    and_intros
    refine gIx_nat gu ?_
    and_intros
    refine gIx_nat gv ?_
    and_intros
    refine ⟨by decide, atLst_go (n := 0) rfl (sub_ix gl) ⟨?_, ?_⟩⟩
    · rw [List.length_map, szL]
      have := L.le u hu
      have := ok.le
      omega
    rw [set_ix gl]
    refine hN _ ⟨i + 1, _, some (0, natD i), some (0, natD u), some (0, natD v), some (0, .int c), er, hi2, L.step (red_at he) hu, ?_⟩
    rw [List.map_set]
    unfold lvI
    rw [List.map_append]; rfl
  · rintro ρ ⟨i, lv, v5, v6, v7, v8, ex, hi, L, rfl⟩
    have hi3 : i = es.length := Nat.le_antisymm hi (en_end ex)
    subst hi3
    and_intros
    rw [← red_len (p := pf ps)] at L
    exact hR lv L.done
abbrev s_next_layer : Stmt := topS 5
theorem sc_next_layer : FnScope ["leaving", "layer", "best", "found", "node", "base", "index", "head", "cost", "total"] ["leaving", "layer", "best"] (defScope s_next_layer) := ⟨rfl, rfl, rfl, by decide +kernel, rfl, by decide +kernel, by decide +kernel⟩
theorem ok_next_layer {f : Addr} {fd : FuncData} (F : Fun K "next_layer" "next_layer" s_next_layer f fd) (T : Bi mg)  : FnOk P w K mg base CX0 1 f fd ["leaving", "layer", "best"] (spD K (.own 1) w_next_layer) := by
  refine Fun_okD F sc_next_layer (fun _ _ _ h => by obtain ⟨_, _, _, _, _, e, _, _, _, _, _, _⟩ := h; rw [e]; rfl) fun B cdv A outer s H E hr => ⟨_, (ds_cons (ds_setM 3 1 sc_next_layer.nd rfl (by first | exact Or.inl rfl | exact Or.inr rfl) (by decide) (dm_of (de_dnewK 0)))
(ds_cons (ds_forK PassesOwn.never rfl (de_v 1) (dg_name 4 sc_next_layer.nd rfl (by first | exact Or.inl rfl | exact Or.inr rfl) (by decide))
(ds_cons (ds_setM 5 0 sc_next_layer.nd rfl (by first | exact Or.inl rfl | exact Or.inr rfl) (by decide) (dm_of (de_at (de_dget (hr.u 1) (de_v 1) (de_v 4)) (de_int (m := .rd)))))
(ds_one (ds_for PassesOwn.never rfl (di_list (de_at (de_v 0) (de_v 4))) (dg_tup rfl (dgs_cons 6 sc_next_layer.nd rfl (by first | exact Or.inl rfl | exact Or.inr rfl) (by decide) (dgs_cons 7 sc_next_layer.nd rfl (by first | exact Or.inl rfl | exact Or.inr rfl) (by decide) (dgs_cons 8 sc_next_layer.nd rfl (by first | exact Or.inl rfl | exact Or.inr rfl) (by decide) dgs_nil))))
(ds_cons (ds_setM 9 0 sc_next_layer.nd rfl (by first | exact Or.inl rfl | exact Or.inr rfl) (by decide) (dm_of (de_add (m := .own 0) (de_v 5) (de_v 8))))
(ds_one (ds_if (dt_bool (dw_and (dt_lt (de_v 9) (de_at (de_v 2) (de_v 7))) (dw_and1 (dt_bool (dw_or (dt_dnotin (hr.u 1) (de_v 7) (de_var 3 1)) (dw_or1 (dt_lt (de_v 9) (de_at (de_dget (hr.u 1) (de_var 3 1) (de_v 7)) (de_int (m := .rd))))))))))
(ds_one (ds_putK 3 (hr.u 1) (dm_of (de_tup (da_cons (m := .own 0) (de_v 9) (da_cons (m := .own 0) (de_v 6) da_nil)))) (de_v 7)))
ds_nil)))))))
(ds_one (ds_retM (dm_take 3 1))))), fun ds R ⟨gs, n, lv, l, b, e, wf, n0, L, ok, hb, hR⟩ => ?_⟩
  subst e
  have PUT : ∀ (acc : Lay) (h i : Nat) (t : Int), stepF b acc (h, t, i) = stepF b acc (h, t, i) := fun _ _ _ _ => rfl
  and_intros
  refine ⟨_, keys_nT, ?_⟩
  refine forD_go (fun xs ρ => ∃ (l1 acc : Lay) (v4 v5 v6 v7 v8 v9 : Option (Nat × D)), xs = (l1.map (·.1)).map natD ∧ (∀ e ∈ l1, e ∈ l) ∧ StepOk n b acc ∧ (cands lv l1).foldl (stepF b) acc = nextL lv b l ∧
    ρ = [some (0, lvD lv), some (0, layD l), some (0, .lst (b.map .int)), some (1, layD acc), v4, v5, v6, v7, v8, v9]) ?_ ?_ _ _ ⟨l, [], none, none, none, none, none, none, rfl, fun e h => h, ⟨List.nodup_nil, fun x h => (by cases h)⟩, rfl, rfl⟩
  · rintro x r ρ ⟨l1, acc, v4, v5, v6, v7, v8, v9, ex, hsub, hacc, hf, rfl⟩ N hN
    cases l1 with
    | nil => cases ex
    | cons e l1 =>
      obtain ⟨u, t, o⟩ := e
      rw [List.map_cons, List.map_cons] at ex
      injection ex with ex1 ex2
      subst ex1
      have he : (u, t, o) ∈ l := hsub _ List.mem_cons_self
      have hu : u < n := ok.lt u (List.mem_map.mpr ⟨_, he, rfl⟩)
      refine ⟨_, rfl, ?_⟩
      and_intros
      refine dget_go (gt_of_mem ok.nd he) ?_
      and_intros
      refine gIx_nat (lv_get (by rw [L.len]; exact hu)) ?_
      and_intros
      have hf' : (cands lv l1).foldl (stepF b) ((candsAt lv u t).foldl (stepF b) acc) = nextL lv b l := by
        rw [← hf, ← List.foldl_append]; rfl
      refine forD_go (fun xs ρ => ∃ (qs : List (Nat × Nat × Int)) (ac : Lay) (v6 v7 v8 v9 : Option (Nat × D)), xs = qs.map trD ∧ (∀ q ∈ qs, q ∈ lv.getD u []) ∧ StepOk n b ac ∧ (qs.map fun q => (q.2.1, t + q.2.2, q.1)).foldl (stepF b) ac = (candsAt lv u t).foldl (stepF b) acc ∧
        ρ = [some (0, lvD lv), some (0, layD l), some (0, .lst (b.map .int)), some (1, layD ac), some (0, natD u), some (0, .int t), v6, v7, v8, v9]) ?_ ?_ _ _ ⟨lv.getD u [], acc, _, _, _, _, rfl, fun q h => h, hacc, rfl, rfl⟩
      · rintro x r ρ ⟨qs, ac, w6, w7, w8, w9, ey, hq, ha, hg, rfl⟩ N2 hN2
        cases qs with
        | nil => cases ey
        | cons q qs =>
          obtain ⟨i, h, c⟩ := q
          rw [List.map_cons] at ey
          injection ey with ey1 ey2
          subst ey1
          have hh : h < n := L.lt wf hu (hq _ List.mem_cons_self)
          have hq' : ∀ q ∈ qs, q ∈ lv.getD u [] := fun q z => hq q (List.mem_cons_of_mem _ z)
          rw [List.map_cons, List.foldl_cons] at hg
          have gb := ps_get (ps := b) (v := h) (by rw [hb]; exact hh)
          refine ⟨_, rfl, ?_⟩
          and_intros
          refine gIx_nat gb ?_
          and_intros
          have put : stepF b ac (h, t + c, i) = ins ac h (t + c, some i) → 2 ≤ sizeLine ∧ (ownDK [some (0, lvD lv), some (0, layD l), some (0, .lst (b.map .int)), some (1, layD ac), some (0, natD u), some (0, .int t), some (0, natD i), some (0, natD h), some (0, .int c), some (0, .int (t + c))] 3 0 fun _ => True) ∧
              ∃ k, keyOf (natD h) = some k ∧ ownDK [some (0, lvD lv), some (0, layD l), some (0, .lst (b.map .int)), some (1, layD ac), some (0, natD u), some (0, .int t), some (0, natD i), some (0, natD h), some (0, .int c), some (0, .int (t + c))] 3 0 fun ds => ds.length < sizeLine ∧ N2 [some (0, lvD lv), some (0, layD l), some (0, .lst (b.map .int)), some (1, .dK (putD ds k (.tup [.int (t + c), natD i]))), some (0, natD u), some (0, .int t), some (0, natD i), some (0, natD h), some (0, .int c), some (0, .int (t + c))] := fun es => by
            refine ⟨by decide, ownDK_nT rfl trivial, _, rfl, ownDK_nT (f := pvD) rfl ⟨?_, ?_⟩⟩
            · rw [List.length_map, szL]
              have := ha.len
              omega
            refine hN2 _ ⟨qs, ins ac h (t + c, some i), some (0, natD i), some (0, natD h), some (0, .int c), some (0, .int (t + c)), ey2, hq', ?_, by rw [← es]; exact hg, ?_⟩
            · rw [← es]; exact stepF_ok ha hh
            · rw [show layD (ins ac h (t + c, some i)) = _ from nT_ins]; rfl
          by_cases h1 : t + c < pf b h
          · rw [decide_eq_true h1]
            and_intros
            refine din_go ?_
            rcases g : gt ac h with _ | x
            · and_intros
              exact put (stepF_a h1 g)
            · and_intros
              refine dget_go g ?_
              and_intros
              by_cases h3 : t + c < x.1
              · rw [decide_eq_true h3]
                and_intros
                exact put (stepF_b h1 g h3)
              · rw [decide_eq_false h3]
                and_intros
                exact hN2 _ ⟨qs, ac, _, _, _, _, ey2, hq', ha, by rw [← stepF_d (b := b) (i := i) g h3]; exact hg, rfl⟩
          · rw [decide_eq_false h1]
            and_intros
            exact hN2 _ ⟨qs, ac, _, _, _, _, ey2, hq', ha, by rw [← stepF_c (acc := ac) (i := i) h1]; exact hg, rfl⟩
      · rintro ρ ⟨qs, ac, w6, w7, w8, w9, ey, hq, ha, hg, rfl⟩
        cases qs with
        | cons q qs => cases ey
        | nil =>
          have hg : ac = (candsAt lv u t).foldl (stepF b) acc := hg
          exact hN _ ⟨l1, ac, _, _, _, _, _, _, ex2, fun e z => hsub e (List.mem_cons_of_mem _ z), ha, by rw [hg]; exact hf', rfl⟩
  · rintro ρ ⟨l1, acc, v4, v5, v6, v7, v8, v9, ex, hsub, hacc, hf, rfl⟩
    cases l1 with
    | cons e l1 => cases ex
    | nil =>
      have hf : acc = nextL lv b l := hf
      and_intros
      rw [hf]
      exact hR
abbrev s_closed_walk : Stmt := topS 6
theorem sc_closed_walk : FnScope ["edges", "leaving", "start", "size", "best", "layers", "k", "layer", "node", "walk"] ["edges", "leaving", "start", "size"] (defScope s_closed_walk) := ⟨rfl, rfl, rfl, by decide +kernel, rfl, by decide +kernel, by decide +kernel⟩
theorem ok_closed_walk {f : Addr} {fd : FuncData} (F : Fun K "closed_walk" "closed_walk" s_closed_walk f fd) (T : Bi mg) (c_next_layer : Cal P w K mg base "next_layer" 1 ["leaving", "layer", "best"] (.own 1) [] w_next_layer) : FnOk P w K mg base CX0 2 f fd ["edges", "leaving", "start", "size"] (spD K (.own 1) w_closed_walk) := by
  refine Fun_okD F sc_closed_walk (fun _ _ _ h => by obtain ⟨_, _, _, _, _, _, _, e, _, _, _, _, _, _, _, _⟩ := h; rw [e]; rfl) fun B cdv A outer s H E hr => ⟨_, (ds_cons (ds_setM 4 1 sc_closed_walk.nd rfl (by first | exact Or.inl rfl | exact Or.inr rfl) (by decide) (dm_of (de_rep (de_frz (de_lst 0 (da_cons (m := .own 0) (de_int (m := .own 0)) da_nil))) (de_len (m := .rd) T.len_ (de_v 1)))))
(ds_cons (ds_setM 5 1 sc_closed_walk.nd rfl (by first | exact Or.inl rfl | exact Or.inr rfl) (by decide) (dm_of (de_lst 0 (da_cons (m := .own 0) (de_frz (de_disp1 (de_v 2) (de_tup (da_cons (m := .own 0) (de_int (m := .own 0)) (da_cons (m := .own 0) (de_non (m := .own 0)) da_nil))))) da_nil))))
(ds_cons (ds_for PassesOwn.never rfl (di_range T.range_ (de_v 3)) (dg_name 6 sc_closed_walk.nd rfl (by first | exact Or.inl rfl | exact Or.inr rfl) (by decide))
(ds_cons (ds_setM 7 0 sc_closed_walk.nd rfl (by first | exact Or.inl rfl | exact Or.inr rfl) (by decide) (dm_of (de_frz (de_CR (n := 1) c_next_layer hr (da_cons (m := .rd) (de_rd (de_v 1)) (da_cons (m := .rd) (de_rd (de_at (de_var 5 1) (de_v 6))) (da_cons (m := .rd) (de_rd (de_var 4 1)) da_nil)))))))
(ds_cons (ds_forK PassesOwn.never rfl (de_v 7) (dg_name 8 sc_closed_walk.nd rfl (by first | exact Or.inl rfl | exact Or.inr rfl) (by decide))
(ds_one (ds_setL 4 0 (dm_of (de_at (de_dget (hr.u 1) (de_v 7) (de_v 8)) (de_int (m := .rd)))) (de_v 8))))
(ds_one (ds_exprM (m := .own 0) (dm_append 5 0 (dm_of (de_v 7))))))))
(ds_cons (ds_frz 5 (ds_setM 9 1 sc_closed_walk.nd rfl (by first | exact Or.inl rfl | exact Or.inr rfl) (by decide) (dm_of (de_lst 0 da_nil))))
(ds_cons (ds_setM 8 0 sc_closed_walk.nd rfl (by first | exact Or.inl rfl | exact Or.inr rfl) (by decide) (dm_of (de_v 2)))
(ds_cons (ds_for PassesOwn.never rfl (di_range T.range_ (de_v 3)) (dg_name 6 sc_closed_walk.nd rfl (by first | exact Or.inl rfl | exact Or.inr rfl) (by decide))
(ds_cons (ds_exprM (m := .own 0) (dm_append 9 0 (dm_of (de_at (de_dget (hr.u 1) (de_at (de_v 5) (de_sub (m := .rd) (de_v 3) (de_v 6))) (de_v 8)) (de_int (m := .rd))))))
(ds_one (ds_setM 8 0 sc_closed_walk.nd rfl (by first | exact Or.inl rfl | exact Or.inr rfl) (by decide) (dm_of (de_at (de_at (de_v 0) (de_at (de_var 9 1) (de_neg (m := .rd) (de_int (m := .rd))))) (de_int (m := .rd))))))))
(ds_one (ds_frz 9 (ds_retM (dm_of (de_revL (de_v 9)))))))))))), fun ds R ⟨es, p, n, ed, lv, s, size, e, hs, ok, L, hsn, h1, h2, hm, hR⟩ => ?_⟩
  subst e
  have n1 := ok.n0
  have gw : Wf (red p es) n := red_wf ok.wf
  and_intros
  rw [List.length_map, L.len]
  refine ⟨by decide, rep_go (by rw [szL]; omega) ⟨by decide, _, rfl, by decide, rng_go (by omega) ?_⟩⟩
  rw [rep_ints]
  obtain ⟨T, o0, hT⟩ : ∃ T o, gt (lev lv n s size).1 s = some (T, o) := by
    cases q : gt (lev lv n s size).1 s with
    | none => exact absurd hm (gt_none.mp q)
    | some t => exact ⟨t.1, t.2, rfl⟩
  have hT0 : T < 0 := (lev_ok gw L hsn size).neg h1 s T o0 hT
  refine forD_go (fun xs ρ => ∃ (k m : Nat) (v6 v7 v8 : Option (Nat × D)), k + m = size ∧ xs = (List.range' k m).map natD ∧
    ρ = [some (0, ed), some (0, lvD lv), some (0, natD s), some (0, natD size), some (1, .lst ((lev lv n s k).2.map .int)), some (1, .lst (layersD lv n s k)), v6, v7, v8, none]) ?_ ?_ _ _ ⟨0, size, none, none, none, by omega, rfl, rfl⟩
  · rintro x r ρ ⟨k, m, v6, v7, v8, hk, ex, rfl⟩ N hN
    cases m with
    | zero => cases ex
    | succ m =>
      rw [List.range'_succ, List.map_cons] at ex
      injection ex with ex1 ex2
      subst ex1
      have I := lev_ok gw L hsn k
      have I2 := lev_ok gw L hsn (k + 1)
      refine ⟨_, rfl, ?_⟩
      and_intros
      refine gIx_nat (layersD_get (Nat.le_refl k)) ?_
      refine ⟨red p es, n, lv, (lev lv n s k).1, (lev lv n s k).2, rfl, gw, n1, L, ⟨I.nd, I.lt⟩, I.bl, flat_lay _, ?_⟩
      and_intros
      refine ⟨_, keys_nT, ?_⟩
      refine forD_go (fun xs ρ => ∃ (l1 : Lay) (b' : List Int) (v8 : Option (Nat × D)), xs = (l1.map (·.1)).map natD ∧ (∀ e ∈ l1, e ∈ (lev lv n s (k + 1)).1) ∧ b'.length = n ∧ updB b' l1 = (lev lv n s (k + 1)).2 ∧
        ρ = [some (0, ed), some (0, lvD lv), some (0, natD s), some (0, natD size), some (1, .lst (b'.map .int)), some (1, .lst (layersD lv n s k)), some (0, natD k), some (0, layD (lev lv n s (k + 1)).1), v8, none]) ?_ ?_ _ _ ⟨(lev lv n s (k + 1)).1, (lev lv n s k).2, _, rfl, fun e h => h, I.bl, rfl, rfl⟩
      · rintro x r ρ ⟨l1, b', w8, ey, hsub, hb, hu, rfl⟩ N2 hN2
        cases l1 with
        | nil => cases ey
        | cons e l1 =>
          obtain ⟨u, t, o⟩ := e
          rw [List.map_cons, List.map_cons] at ey
          injection ey with ey1 ey2
          subst ey1
          have he := hsub _ List.mem_cons_self
          have hun : u < n := I2.lt u (List.mem_map.mpr ⟨_, he, rfl⟩)
          refine ⟨_, rfl, ?_⟩
          and_intros
          refine dget_go (gt_of_mem I2.nd he) ?_
          and_intros
          refine ⟨u, by rw [List.length_map, hb]; exact ixN_nat hun, ?_⟩
          refine hN2 _ ⟨l1, b'.set u t, some (0, natD u), ey2, fun e z => hsub e (List.mem_cons_of_mem _ z), by rw [List.length_set]; exact hb, by rw [← hu]; rfl, ?_⟩
          rw [List.map_set]; rfl
      · rintro ρ ⟨l1, b', w8, ey, hsub, hb, hu, rfl⟩
        cases l1 with
        | cons e l1 => cases ey
        | nil =>
          have hu : b' = (lev lv n s (k + 1)).2 := hu
          subst hu
          and_intros
          refine ⟨by rw [layersD_len, szL]; omega, ?_⟩
          exact hN _ ⟨k + 1, m, _, _, _, by omega, ex2, rfl⟩
  · rintro ρ ⟨k, m, v6, v7, v8, hk, ex, rfl⟩
    cases m with
    | succ m => cases ex
    | zero =>
      have hk : k = size := hk
      subst hk
      and_intros
      refine ⟨Nat.zero_le _, rng_go (by omega) ?_⟩
      refine forD_go (fun xs ρ => ∃ (j m u : Nat) (r : List Nat) (Bb : Int) (o : Option Nat) (v6 : Option (Nat × D)), j + m = k ∧ xs = (List.range' j m).map natD ∧ gt (lev lv n s m).1 u = some (Bb, o) ∧ r.length = j ∧ Wk (red p es) u r.reverse s ∧ Bb + sm (red p es) r.reverse = T ∧
        ρ = [some (0, ed), some (0, lvD lv), some (0, natD s), some (0, natD k), some (1, .lst ((lev lv n s k).2.map .int)), some (0, .lst (layersD lv n s k)), v6, v7, some (0, natD u), some (1, .lst (r.map natD))]) ?_ ?_ _ _ ⟨0, k, s, [], T, o0, _, by omega, rfl, hT, rfl, rfl, (Int.add_zero T), rfl⟩
      · rintro x r ρ ⟨j, m, u, r, Bb, o, w6, hj, ey, hg, hr, hw, hs2, rfl⟩ N2 hN2
        cases m with
        | zero => cases ey
        | succ m =>
          rw [List.range'_succ, List.map_cons] at ey
          injection ey with ey1 ey2
          subst ey1
          obtain ⟨u', b', o', i, c, g1, g2, g3, g4⟩ := lev_from gw L hsn hg
          subst g4
          have ge := red_get.mp g2
          refine ⟨_, rfl, ?_⟩
          and_intros
          refine gIxN_nat (k := m + 1) (by omega) (layersD_get (by omega)) ?_
          refine dget_go hg ?_
          and_intros
          refine ⟨by rw [List.length_map, szL]; omega, ?_⟩
          refine gIx_last ?_
          refine gIx_seq hs (edsD_get ge) ?_
          and_intros
          refine hN2 _ ⟨j + 1, m, u', r ++ [i], b', o', some (0, natD j), by omega, ey2, g1, by rw [List.length_append, hr]; rfl, ?_, ?_, ?_⟩
          · rw [List.reverse_append]
            exact ⟨u, c, g2, hw⟩
          · rw [List.reverse_append]
            show b' + (cst (red p es) i + sm (red p es) r.reverse) = T
            rw [cst_at g2]
            omega
          · rw [List.map_append]; rfl
      · rintro ρ ⟨j, m, u, r, Bb, o, w6, hj, ey, hg, hr, hw, hs2, rfl⟩
        cases m with
        | succ m => cases ey
        | zero =>
          have hj : j = k := hj
          rw [show (lev lv n s 0).1 = [(s, (0, none))] from rfl, gt_cons] at hg
          by_cases q : s = u
          · rw [if_pos q] at hg
            cases hg
            subst q
            and_intros
            have w2 := red_wk.mp hw
            have s2 := red_sm (p := p) w2
            have := hR r.reverse (by rw [List.length_reverse]; omega) (fun z => by
              have := congrArg List.length z
              rw [List.length_reverse, List.length_nil] at this
              omega) w2 (by omega)
            rw [List.map_reverse] at this
            exact this
          · rw [if_neg q] at hg
            cases hg
abbrev s_short_ring : Stmt := topS 7
theorem sc_short_ring : FnScope ["count", "edges", "prices", "ring", "leaving", "start", "layers", "_", "best", "size", "node"] ["count", "edges"] (defScope s_short_ring) := ⟨rfl, rfl, rfl, by decide +kernel, rfl, by decide +kernel, by decide +kernel⟩
theorem ok_short_ring {f : Addr} {fd : FuncData} (F : Fun K "short_ring" "short_ring" s_short_ring f fd) (T : Bi mg) (c_closed_walk : Cal P w K mg base "closed_walk" 2 ["edges", "leaving", "start", "size"] (.own 1) [] w_closed_walk) (c_edges_leaving : Cal P w K mg base "edges_leaving" 1 ["count", "edges", "prices"] (.own 0) [] w_edges_leaving) (c_next_layer : Cal P w K mg base "next_layer" 1 ["leaving", "layer", "best"] (.own 1) [] w_next_layer) (c_prices_or_ring : Cal P w K mg base "prices_or_ring" 3 ["count", "edges"] (.own 2) [] w_prices_or_ring) : FnOk P w K mg base CX0 4 f fd ["count", "edges"] (spD K (.own 1) w_short_ring) := by
  refine Fun_okD F sc_short_ring (fun _ _ _ h => by obtain ⟨_, _, _, e, _, _, _, _⟩ := h; rw [e]; rfl) fun B cdv A outer s H E hr => ⟨_, (ds_cons (ds_asgO 2 3 1 rfl (dm_of (de_C c_prices_or_ring hr (da_cons (m := .own 0) (de_v 0) (da_cons (m := .own 0) (de_v 1) da_nil)))) sc_short_ring.nd rfl (by first | exact Or.inl rfl | exact Or.inr rfl) (by decide) rfl (by first | exact Or.inl rfl | exact Or.inr rfl) (by decide))
(ds_cons (ds_frz 2 (ds_if (dt_is (de_var 3 1) (de_non (m := .rd)))
(ds_one (ds_retM (dm_of (de_non (m := .own 1)))))
ds_nil))
(ds_cons (ds_setM 4 0 sc_short_ring.nd rfl (by first | exact Or.inl rfl | exact Or.inr rfl) (by decide) (dm_of (de_C c_edges_leaving hr (da_cons (m := .own 0) (de_v 0) (da_cons (m := .own 0) (de_v 1) (da_cons (m := .own 0) (de_v 2) da_nil))))))
(ds_cons (ds_setLc (own := [("start", 5)]) 6 0 rfl sc_short_ring.nd rfl rfl (by decide) (sw_true rfl rfl rfl rfl) (di_range T.range_ (de_v 0)) (blk_of ["count", "edges", "prices", "ring", "leaving", "start", "layers", "_", "best", "size", "node"] (defScope s_short_ring) rfl (by decide +kernel) (by decide +kernel) (by decide +kernel) (by decide +kernel)) (dgc_name 5 sc_short_ring.nd rfl) (hol_cons rfl (fun _ _ => rfl) hol_nil) (fun _ _ _ _ _ => dts_nil) (fun _ _ _ _ _ => (de_frz (de_disp1 (de_v 5) (de_tup (da_cons (m := .own 0) (de_int (m := .own 0)) (da_cons (m := .own 0) (de_non (m := .own 0)) da_nil)))))))
(ds_cons (ds_setLc (own := [("_", 7)]) 8 1 rfl sc_short_ring.nd rfl rfl (by decide) (sw_true rfl rfl rfl rfl) (di_range T.range_ (de_v 0)) (blk_of ["count", "edges", "prices", "ring", "leaving", "start", "layers", "_", "best", "size", "node"] (defScope s_short_ring) rfl (by decide +kernel) (by decide +kernel) (by decide +kernel) (by decide +kernel)) (dgc_name 7 sc_short_ring.nd rfl) (hol_cons rfl (fun _ _ => rfl) hol_nil) (fun _ _ _ _ _ => dts_nil) (fun _ _ _ _ _ => (de_rep (de_frz (de_lst 0 (da_cons (m := .own 0) (de_int (m := .own 0)) da_nil))) (de_v 0))))
(ds_cons (ds_for PassesOwn.never rfl (di_range2 T.range_ (de_int (m := .rd)) (de_len (m := .rd) T.len_ (de_var 3 1))) (dg_name 9 sc_short_ring.nd rfl (by first | exact Or.inl rfl | exact Or.inr rfl) (by decide))
(ds_one (ds_for PassesOwn.never rfl (di_range T.range_ (de_v 0)) (dg_name 5 sc_short_ring.nd rfl (by first | exact Or.inl rfl | exact Or.inr rfl) (by decide))
(ds_cons (ds_setL 6 0 (dm_of (de_frz (de_CR (n := 1) c_next_layer hr (da_cons (m := .rd) (de_rd (de_v 4)) (da_cons (m := .rd) (de_rd (de_at (de_var 6 1) (de_v 5))) (da_cons (m := .rd) (de_rd (de_at (de_var 8 2) (de_v 5))) da_nil)))))) (de_v 5))
(ds_cons (ds_if (dt_din (hr.u 1) (de_v 5) (de_at (de_var 6 1) (de_v 5)))
(ds_one (ds_retM (dm_of (de_C c_closed_walk hr (da_cons (m := .own 0) (de_v 1) (da_cons (m := .own 0) (de_v 4) (da_cons (m := .own 0) (de_v 5) (da_cons (m := .own 0) (de_v 9) da_nil))))))))
ds_nil)
(ds_one (ds_forK PassesOwn.never rfl (de_bor0 (de_at (de_var 6 1) (de_v 5))) (dg_name 10 sc_short_ring.nd rfl (by first | exact Or.inl rfl | exact Or.inr rfl) (by decide))
(ds_one (ds_setPL 0 (dm_of (de_bor0 (de_at (de_dget (hr.u 1) (de_at (de_var 6 1) (de_v 5)) (de_v 10)) (de_int (m := .rd))))) (dp_ix (dp_var 8) (de_v 5)) (de_v 10))))))))))
(ds_one (ds_retM (dm_take 3 1))))))))), fun ds R ⟨es, n, ed, e, hs, ok, hN, hR⟩ => ?_⟩
  subst e
  have n1 := ok.n0
  and_intros
  refine ⟨es, n, ed, rfl, hs, ok, fun ps hl hno => ⟨_, _, rfl, ?_⟩, fun ps node is hl i1 i2 i3 i4 => ⟨_, _, rfl, ?_⟩⟩
  · and_intros
    exact hN hno
  and_intros
  refine ⟨es, n, ed, ps, rfl, hs, ok, hl, fun lv L => ?_⟩
  have gw : Wf (red (pf ps) es) n := red_wf ok.wf
  and_intros
  refine rng_go (by omega) ?_
  refine compD_map (xs := List.range' 0 n) natD (fun k => some (layD (lev lv n k 0).1)) (fun k hk N hN => ⟨_, rfl, ?_⟩) (by rw [List.length_range', szL]; omega) ?_
  · and_intros
    exact ⟨by decide, _, rfl, hN⟩
  refine rng_go (by omega) ?_
  refine compD_map (xs := List.range' 0 n) natD (fun k => some (.lst ((lev lv n k 0).2.map .int))) (fun k hk N hN => ⟨_, rfl, ?_⟩) (by rw [List.length_range', szL]; omega) ?_
  · and_intros
    refine ⟨by decide, rep_go (by rw [szL]; omega) ?_⟩
    rw [rep_ints]
    exact hN
  rw [List.filterMap_eq_map', List.filterMap_eq_map']
  and_intros
  rw [List.length_map]
  refine rng2_go (a := 1) (by omega) (by omega) ?_
  have g0 : ∀ (f : Nat → D) (v : Nat), v < n → ((List.range' 0 n).map f)[v]? = some (f v) := fun f v hv => by
    rw [List.getElem?_map, List.getElem?_range' hv]; simp
  refine forD_go (fun xs ρ => ∃ (k m : Nat) (Ls Bs : List D) (v5 v7 v9 v10 : Option (Nat × D)), k + 1 + m = is.length ∧ xs = (List.range' (k + 1) m).map natD ∧ Ls.length = n ∧ Bs.length = n ∧ (∀ v, v < n → Ls[v]? = some (layD (lev lv n v k).1)) ∧ (∀ v, v < n → Bs[v]? = some (.lst ((lev lv n v k).2.map .int))) ∧
    (∀ j, 1 ≤ j → j ≤ k → ∀ v, v < n → v ∉ (lev lv n v j).1.map (·.1)) ∧
    ρ = [some (0, natD n), some (0, ed), some (0, .lst (ps.map .int)), some (1, .lst (is.map natD)), some (0, lvD lv), v5, some (1, .lst Ls), v7, some (2, .lst Bs), v9, v10]) ?_ ?_ _ _ ⟨0, is.length - 1, _, _, none, none, none, none, by
      have := List.length_pos_iff.mpr i1
      omega, rfl, by rw [List.length_map, List.length_range'], by rw [List.length_map, List.length_range'], fun v hv => g0 _ v hv, fun v hv => g0 _ v hv, fun j a b => by omega, rfl⟩
  · rintro x r ρ ⟨k, m, Ls, Bs, v5, v7, v9, v10, hk, ex, hL, hB, gL, gB, nf, rfl⟩ N hN2
    cases m with
    | zero => cases ex
    | succ m =>
      rw [List.range'_succ, List.map_cons] at ex
      injection ex with ex1 ex2
      subst ex1
      refine ⟨_, rfl, ?_⟩
      and_intros
      refine rng_go (by omega) ?_
      refine forD_go (fun xs ρ => ∃ (s m : Nat) (Ls Bs : List D) (v5 v10 : Option (Nat × D)), s + m = n ∧ xs = (List.range' s m).map natD ∧ Ls.length = n ∧ Bs.length = n ∧ (∀ v, v < n → Ls[v]? = some (layD (lev lv n v (if v < s then k + 1 else k)).1)) ∧ (∀ v, v < n → Bs[v]? = some (.lst ((lev lv n v (if v < s then k + 1 else k)).2.map .int))) ∧
        (∀ v, v < s → v ∉ (lev lv n v (k + 1)).1.map (·.1)) ∧
        ρ = [some (0, natD n), some (0, ed), some (0, .lst (ps.map .int)), some (1, .lst (is.map natD)), some (0, lvD lv), v5, some (1, .lst Ls), v7, some (2, .lst Bs), some (0, natD (k + 1)), v10]) ?_ ?_ _ _ ⟨0, n, Ls, Bs, _, _, by omega, rfl, hL, hB, fun v hv => by rw [if_neg (Nat.not_lt_zero v)]; exact gL v hv, fun v hv => by rw [if_neg (Nat.not_lt_zero v)]; exact gB v hv, fun v h => absurd h (Nat.not_lt_zero v), rfl⟩
      · rintro x r ρ ⟨s, m, Ls, Bs, v5, v10, hsm, ey, hL, hB, gL, gB, nf2, rfl⟩ N2 hN2
        cases m with
        | zero => cases ey
        | succ m =>
          rw [List.range'_succ, List.map_cons] at ey
          injection ey with ey1 ey2
          subst ey1
          have hsn : s < n := by omega
          have I := lev_ok gw L hsn k
          have I2 := lev_ok gw L hsn (k + 1)
          have gs1 := gL s hsn
          have gb1 := gB s hsn
          rw [if_neg (Nat.lt_irrefl s)] at gs1 gb1
          refine ⟨_, rfl, ?_⟩
          and_intros
          refine gIx_nat gs1 ?_
          and_intros
          refine gIx_nat gb1 ?_
          refine ⟨red (pf ps) es, n, lv, (lev lv n s k).1, (lev lv n s k).2, rfl, gw, n1, L, ⟨I.nd, I.lt⟩, I.bl, flat_lay _, ?_⟩
          and_intros
          refine ⟨s, by rw [hL]; exact ixN_nat hsn, ?_⟩
          have gs2 : (Ls.set s (layD (nextL lv (lev lv n s k).2 (lev lv n s k).1)))[s]? = some (layD (lev lv n s (k + 1)).1) := by
            rw [List.getElem?_set, if_pos rfl, if_pos (by omega)]; rfl
          and_intros
          refine gIx_nat gs2 ?_
          refine din_go ?_
          rcases g : gt (lev lv n s (k + 1)).1 s with _ | t
          case' some =>
            and_intros
            refine ⟨es, pf ps, n, ed, lv, s, k + 1, rfl, hs, ok, L, hsn, by omega, by omega, Decidable.byContradiction fun z => (by rw [gt_none.mpr z] at g; cases g), fun is' l1 ne wk sm0 => hR s is' ⟨ne, wk, sm0, fun j hj c => lev_no gw L k nf j (by omega) (red_cn.mpr c)⟩⟩
          and_intros
          refine gIx_nat gs2 ?_
          refine ⟨_, keys_nT, ?_⟩
          refine forD_go (fun xs ρ => ∃ (l1 : Lay) (b' : List Int) (Bs' : List D) (v10 : Option (Nat × D)), xs = (l1.map (·.1)).map natD ∧ (∀ e ∈ l1, e ∈ (lev lv n s (k + 1)).1) ∧ b'.length = n ∧ updB b' l1 = (lev lv n s (k + 1)).2 ∧ Bs'.length = n ∧ Bs'[s]? = some (.lst (b'.map .int)) ∧ (∀ v, v ≠ s → Bs'[v]? = Bs[v]?) ∧
            ρ = [some (0, natD n), some (0, ed), some (0, .lst (ps.map .int)), some (1, .lst (is.map natD)), some (0, lvD lv), some (0, natD s), some (1, .lst (Ls.set s (layD (lev lv n s (k + 1)).1))), v7, some (2, .lst Bs'), some (0, natD (k + 1)), v10]) ?_ ?_ _ _ ⟨(lev lv n s (k + 1)).1, (lev lv n s k).2, Bs, _, rfl, fun e h => h, I.bl, rfl, hB, gb1, fun v _ => rfl, rfl⟩
          · rintro x r ρ ⟨l1, b', Bs', w10, ez, hsub, hb, hu, hB2, gb2, gb3, rfl⟩ N3 hN3
            cases l1 with
            | nil => cases ez
            | cons e l1 =>
              obtain ⟨u, t, o⟩ := e
              rw [List.map_cons, List.map_cons] at ez
              injection ez with ez1 ez2
              subst ez1
              have he := hsub _ List.mem_cons_self
              have hun : u < n := I2.lt u (List.mem_map.mpr ⟨_, he, rfl⟩)
              refine ⟨_, rfl, ?_⟩
              and_intros
              refine gIx_nat gs2 ?_
              refine dget_go (gt_of_mem I2.nd he) ?_
              and_intros
              refine atP_go (n := 1) rfl rfl ⟨_, _, s, rfl, rfl, by rw [hB2]; exact ixN_nat hsn, ?_⟩
              and_intros
              refine atLst_go (n := 0) rfl (sub_ix gb2) ⟨_, u, rfl, by rw [List.length_map, hb]; exact ixN_nat hun, ?_⟩
              rw [set_ix gb2]
              refine hN3 _ ⟨l1, b'.set u t, Bs'.set s (.lst ((b'.set u t).map .int)), some (0, natD u), ez2, fun e z => hsub e (List.mem_cons_of_mem _ z), by rw [List.length_set]; exact hb, by rw [← hu]; rfl, by rw [List.length_set]; exact hB2, ?_, fun v hv => ?_, ?_⟩
              · rw [List.getElem?_set, if_pos rfl, if_pos (by omega)]
              · rw [List.getElem?_set, if_neg fun z => hv z.symm]; exact gb3 v hv
              · rw [List.map_set]; rfl
          · rintro ρ ⟨l1, b', Bs', w10, ez, hsub, hb, hu, hB2, gb2, gb3, rfl⟩
            cases l1 with
            | cons e l1 => cases ez
            | nil =>
              have hu : b' = (lev lv n s (k + 1)).2 := hu
              subst hu
              refine hN2 _ ⟨s + 1, m, _, Bs', _, _, by omega, ey2, by rw [List.length_set]; exact hL, hB2, fun v hv => ?_, fun v hv => ?_, fun v hv => ?_, rfl⟩
              · by_cases q : v = s
                · subst q
                  rw [if_pos (by omega)]; exact gs2
                · rw [List.getElem?_set, if_neg fun z => q z.symm, gL v hv]
                  by_cases q2 : v < s
                  · rw [if_pos q2, if_pos (by omega)]
                  · rw [if_neg q2, if_neg (by omega)]
              · by_cases q : v = s
                · subst q
                  rw [if_pos (by omega)]; exact gb2
                · rw [gb3 v q, gB v hv]
                  by_cases q2 : v < s
                  · rw [if_pos q2, if_pos (by omega)]
                  · rw [if_neg q2, if_neg (by omega)]
              · by_cases q : v = s
                · subst q
                  exact gt_none.mp g
                · exact nf2 v (by omega)
      · rintro ρ ⟨s, m, Ls, Bs, v5, v10, hsm, ey, hL, hB, gL, gB, nf2, rfl⟩
        cases m with
        | succ m => cases ey
        | zero =>
          have hsm : s = n := hsm
          subst hsm
          refine hN2 _ ⟨k + 1, m, Ls, Bs, _, _, _, _, by omega, ex2, hL, hB, fun v hv => by have := gL v hv; rwa [if_pos hv] at this, fun v hv => by have := gB v hv; rwa [if_pos hv] at this, fun j j1 j2 v hv => ?_, rfl⟩
          by_cases q : j ≤ k
          · exact nf j j1 q v hv
          · have q : j = k + 1 := by omega
            subst q
            exact nf2 v hv
  · rintro ρ ⟨k, m, Ls, Bs, v5, v7, v9, v10, hk, ex, hL, hB, gL, gB, nf, rfl⟩
    cases m with
    | succ m => cases ex
    | zero =>
      and_intros
      exact hR node is ⟨i1, i2, i3, fun j hj c => lev_no gw L k nf j (by omega) (red_cn.mpr c)⟩
abbrev s_tests_of : Stmt := topS 9
theorem sc_tests_of : FnScope ["alternative", "condition"] ["alternative"] (defScope s_tests_of) := ⟨rfl, rfl, rfl, by decide +kernel, rfl, by decide +kernel, by decide +kernel⟩
theorem ok_tests_of {f : Addr} {fd : FuncData} (F : Fun K "tests_of" "tests_of" s_tests_of f fd) (T : Bi mg)  : FnOk P w K mg base CX0 1 f fd ["alternative"] (spD K (.own 1) w_tests_of) := by
  refine Fun_okD F sc_tests_of (fun _ _ _ h => by obtain ⟨_, _, e, _, _, _⟩ := h; rw [e]; rfl) fun B cdv A outer s H E hr => ⟨_, (ds_one (ds_retM (dm_of (de_lc (own := [("condition", 1)]) 0 rfl sc_tests_of.nd (di_seqU (de_v 0)) (blk_of ["alternative", "condition"] (defScope s_tests_of) rfl (by decide +kernel) (by decide +kernel) (by decide +kernel) (by decide +kernel)) (dgc_name 1 sc_tests_of.nd rfl) (hol_cons rfl (fun _ _ => rfl) hol_nil) (fun _ _ _ _ _ => dts_one (dt_eq (de_at (de_v 1) (de_int (m := .rd))) (de_str (m := .rd)))) (fun _ _ _ _ _ => (de_v 1)))))), fun ds R ⟨cs, cd, e, hs, ok, hR⟩ => ?_⟩
  subst e
  and_intros
  refine seqOf_go hs ?_
  refine compD_map cnD (fun c => (test1 c).map tsD) (fun c hc N hN => ?_) (by rw [szL]; omega) ?_
  · refine ⟨_, rfl, ?_⟩
    cases c with
    | lacks n =>
      and_intros
      exact hN
    | most t =>
      and_intros
      exact hN
  · unfold tests at hR
    rw [List.map_filterMap] at hR
    exact hR
abbrev s_names_of : Stmt := topS 10
theorem sc_names_of : FnScope ["alternative", "found", "test", "word"] ["alternative"] (defScope s_names_of) := ⟨rfl, rfl, rfl, by decide +kernel, rfl, by decide +kernel, by decide +kernel⟩
theorem ok_names_of {f : Addr} {fd : FuncData} (F : Fun K "names_of" "names_of" s_names_of f fd) (T : Bi mg) (c_tests_of : Cal P w K mg base "tests_of" 1 ["alternative"] (.own 1) [] w_tests_of) : FnOk P w K mg base CX0 2 f fd ["alternative"] (spD K (.own 0) w_names_of) := by
  refine Fun_okD F sc_names_of (fun _ _ _ h => by obtain ⟨_, _, e, _, _, _⟩ := h; rw [e]; rfl) fun B cdv A outer s H E hr => ⟨_, (ds_cons (ds_setM 1 1 sc_names_of.nd rfl (by first | exact Or.inl rfl | exact Or.inr rfl) (by decide) (dm_of (de_dnewK 0)))
(ds_cons (ds_for PassesOwn.never rfl (di_list (de_frz (de_C c_tests_of hr (da_cons (m := .own 0) (de_v 0) da_nil)))) (dg_name 2 sc_names_of.nd rfl (by first | exact Or.inl rfl | exact Or.inr rfl) (by decide))
(ds_one (ds_for PassesOwn.never rfl (di_tup (de_slT (de_v 2) (do_some (de_int (m := .rd))) (do_some (de_int (m := .rd))))) (dg_name 3 sc_names_of.nd rfl (by first | exact Or.inl rfl | exact Or.inr rfl) (by decide))
(ds_one (ds_if (dt_ne (de_v 3) (de_str (m := .rd)))
(ds_one (ds_putK 1 (hr.u 1) (dm_of (de_bl (m := .own 0))) (de_v 3)))
ds_nil)))))
(ds_one (ds_frz 1 (ds_retM (dm_of (de_frz (de_sortedK rfl T.sorted_ (de_v 1))))))))), fun ds R ⟨cs, cd, e, hs, ok, hR⟩ => ?_⟩
  subst e
  and_intros
  refine ⟨cs, cd, rfl, hs, by have := ok.len; omega, ?_⟩
  and_intros
  refine forD_go (fun xs ρ => ∃ (ts : List Tst) (l : List (Str × Bool)) (a b : Option (Nat × D)), xs = ts.map tsD ∧ ts.foldl N7.addT (l.map (·.1)) = used (tests cs) ∧ l.length + 2 * ts.length ≤ 40 ∧ ρ = [some (0, cd), some (1, sT D.bl l), a, b]) ?_ ?_ _ _ ⟨tests cs, [], none, none, rfl, rfl, by have := tests_len cs; have := ok.len; rw [List.length_nil]; omega, rfl⟩
  · rintro x r ρ ⟨ts, l, a, b, ex, hf, hl, rfl⟩ N hN
    cases ts with
    | nil => cases ex
    | cons t ts =>
      rw [List.map_cons] at ex
      injection ex with ex1 ex2
      subst ex1
      rw [List.length_cons] at hl
      refine ⟨_, rfl, ?_⟩
      and_intros
      refine forD_go (fun xs ρ => ∃ (ws : List Str) (l : List (Str × Bool)) (b : Option (Nat × D)), xs = ws.map .str ∧ ts.foldl N7.addT (ws.foldl addW (l.map (·.1))) = used (tests cs) ∧ l.length + ws.length + 2 * ts.length ≤ 40 ∧ ρ = [some (0, cd), some (1, sT D.bl l), some (0, tsD t), b]) ?_ ?_ _ _ ⟨[t.1, t.2.1], l, b, rfl, hf, by simp only [List.length_cons, List.length_nil]; omega, rfl⟩
      · rintro x r ρ ⟨ws, l, b, ex, hf, hl, rfl⟩ N hN
        cases ws with
        | nil => cases ex
        | cons x ws =>
          rw [List.map_cons] at ex
          injection ex with ex1 ex2
          subst ex1
          rw [List.length_cons] at hl
          refine ⟨_, rfl, ?_⟩
          and_intros
          by_cases c : x = ""
          · rw [decide_eq_true c]
            and_intros
            refine hN _ ⟨ws, l, _, ex2, ?_, by omega, rfl⟩
            rw [List.foldl_cons] at hf
            rw [← hf]
            unfold addW
            rw [if_neg fun z => z.1 c]
          · rw [decide_eq_false c]
            and_intros
            refine ⟨⟨rfl, trivial⟩, _, rfl, sput_go (f := D.bl) (v := true) rfl (by rw [szL]; omega) (hN _ ⟨ws, iA l x true, _, ex2, ?_, ?_, rfl⟩)⟩
            · rw [List.foldl_cons] at hf
              rw [← hf]
              unfold addW
              by_cases q : x ∈ l.map (·.1)
              · rw [iA_keys_old q, if_neg fun z => z.2 q]
              · rw [iA_new q, List.map_append, if_pos ⟨c, q⟩]; rfl
            · have := iA_len (l := l) (k := x) (v := true)
              omega
      · rintro ρ ⟨ws, l, b, ex, hf, hl, rfl⟩
        cases ws with
        | cons x ws => cases ex
        | nil => exact hN _ ⟨ts, l, _, _, ex2, hf, by rw [List.length_nil] at hl; omega, rfl⟩
  · rintro ρ ⟨ts, l, a, b, ex, hf, hl, rfl⟩
    cases ts with
    | cons k ks => cases ex
    | nil =>
      and_intros
      refine gSortK_sT (by omega) ?_
      have hf : l.map (·.1) = used (tests cs) := hf
      rw [hf]
      exact hR
abbrev s_pool_of : Stmt := topS 14
theorem sc_pool_of : FnScope ["conditions", "known", "pool", "name"] ["conditions", "known"] (defScope s_pool_of) := ⟨rfl, rfl, rfl, by decide +kernel, rfl, by decide +kernel, by decide +kernel⟩
theorem ok_pool_of {f : Addr} {fd : FuncData} {tk_GREATEST : Tok} (F : Fun K "pool_of" "pool_of" s_pool_of f fd) (T : Bi mg) (g_GREATEST : mg "GREATEST" = some (.int 9999 tk_GREATEST)) (c_tests_of : Cal P w K mg base "tests_of" 1 ["alternative"] (.own 1) [] w_tests_of) : FnOk P w K mg base CX0 2 f fd ["conditions", "known"] (spD K (.own 0) w_pool_of) := by
  refine Fun_okD F sc_pool_of (fun _ _ _ h => by obtain ⟨_, _, _, e, _, _, _, _⟩ := h; rw [e]; rfl) fun B cdv A outer s H E hr => ⟨_, (ds_cons (ds_setM 2 1 sc_pool_of.nd rfl (by first | exact Or.inl rfl | exact Or.inr rfl) (by decide) (dm_of (de_C c_tests_of hr (da_cons (m := .own 0) (de_v 0) da_nil))))
(ds_cons (ds_for PassesOwn.never rfl (di_list (de_v 1)) (dg_name 3 sc_pool_of.nd rfl (by first | exact Or.inl rfl | exact Or.inr rfl) (by decide))
(ds_cons (ds_exprM (m := .own 0) (dm_append 2 0 (dm_of (de_tup (da_cons (m := .own 0) (de_str (m := .own 0)) (da_cons (m := .own 0) (de_v 3) (da_cons (m := .own 0) (de_str (m := .own 0)) (da_cons (m := .own 0) (de_gint (m := .own 0) (by rfl) g_GREATEST) da_nil))))))))
(ds_one (ds_exprM (m := .own 0) (dm_append 2 0 (dm_of (de_tup (da_cons (m := .own 0) (de_str (m := .own 0)) (da_cons (m := .own 0) (de_str (m := .own 0)) (da_cons (m := .own 0) (de_v 3) (da_cons (m := .own 0) (de_int (m := .own 0)) da_nil)))))))))))
(ds_one (ds_frz 2 (ds_retM (dm_of (de_v 2))))))), fun ds R ⟨cs, cd, nm, e, hs, ok, hl, hR⟩ => ?_⟩
  subst e
  and_intros
  refine ⟨cs, cd, rfl, hs, ok, ?_⟩
  and_intros
  have hlt := tests_len cs
  refine forD_go (fun xs ρ => ∃ (ns : List Str) (ts : List Tst) (a : Option (Nat × D)), xs = ns.map .str ∧ pool ts ns = pool (tests cs) nm ∧ ts.length + 2 * ns.length ≤ 300 ∧ ρ = [some (0, cd), some (0, .lst (nm.map .str)), some (1, .lst (ts.map tsD)), a]) ?_ ?_ _ _ ⟨nm, tests cs, none, rfl, rfl, by omega, rfl⟩
  · rintro x r ρ ⟨ns, ts, a, ex, hf, hl2, rfl⟩ N hN
    cases ns with
    | nil => cases ex
    | cons n ns =>
      rw [List.map_cons] at ex
      injection ex with ex1 ex2
      subst ex1
      rw [List.length_cons] at hl2
      refine ⟨_, rfl, ?_⟩
      and_intros
      refine ⟨by decide, by rw [List.length_map, szL]; omega, by decide, by rw [List.length_append, List.length_map, List.length_singleton, szL]; omega, hN _ ⟨ns, ts ++ [((n, ("" : Str), 9999) : Tst), (("" : Str), n, 0)], some (0, .str n), ex2, hf, by rw [List.length_append]; simp only [List.length_cons, List.length_nil]; omega, ?_⟩⟩
      rw [List.map_append]
      simp [tsD]
  · rintro ρ ⟨ns, ts, a, ex, hf, hl2, rfl⟩
    cases ns with
    | cons k ks => cases ex
    | nil =>
      and_intros
      have hf : ts = pool (tests cs) nm := hf
      rw [hf]
      exact hR
abbrev s_numbered : Stmt := topS 15
theorem sc_numbered : FnScope ["pool", "numbers", "test", "word"] ["pool"] (defScope s_numbered) := ⟨rfl, rfl, rfl, by decide +kernel, rfl, by decide +kernel, by decide +kernel⟩
theorem ok_numbered {f : Addr} {fd : FuncData} (F : Fun K "numbered" "numbered" s_numbered f fd) (T : Bi mg)  : FnOk P w K mg base CX0 1 f fd ["pool"] (spD K (.own 0) w_numbered) := by
  refine Fun_okD F sc_numbered (fun _ _ _ h => by obtain ⟨_, e, _, _⟩ := h; rw [e]; rfl) fun B cdv A outer s H E hr => ⟨_, (ds_cons (ds_setM 1 1 sc_numbered.nd rfl (by first | exact Or.inl rfl | exact Or.inr rfl) (by decide) (dm_of (de_disp1 (de_str (m := .own 0)) (de_int (m := .own 0)))))
(ds_cons (ds_for PassesOwn.never rfl (di_list (de_v 0)) (dg_name 2 sc_numbered.nd rfl (by first | exact Or.inl rfl | exact Or.inr rfl) (by decide))
(ds_one (ds_for PassesOwn.never rfl (di_tup (de_slT (de_v 2) (do_some (de_int (m := .rd))) (do_some (de_int (m := .rd))))) (dg_name 3 sc_numbered.nd rfl (by first | exact Or.inl rfl | exact Or.inr rfl) (by decide))
(ds_one (ds_if (dt_dnotin (hr.u 1) (de_v 3) (de_var 1 1))
(ds_one (ds_putK 1 (hr.u 1) (dm_of (de_len (m := .own 0) T.len_ (de_var 1 1))) (de_v 3)))
ds_nil)))))
(ds_one (ds_frz 1 (ds_retM (dm_of (de_v 1))))))), fun ds R ⟨ps, e, hl, hR⟩ => ?_⟩
  subst e
  and_intros
  refine ⟨_, rfl, ?_⟩
  refine forD_go (fun xs ρ => ∃ (ts : List Tst) (l : List Str) (a b : Option (Nat × D)), xs = ts.map tsD ∧ ts.foldl addN2 l = nums ps ∧ l.length + 2 * ts.length ≤ 300 ∧ ρ = [some (0, .lst (ps.map tsD)), some (1, sT natD l.zipIdx), a, b]) ?_ ?_ _ _ ⟨ps, [""], none, none, rfl, rfl, by rw [List.length_singleton]; omega, rfl⟩
  · rintro x r ρ ⟨ts, l, a, b, ex, hf, hl2, rfl⟩ N hN
    cases ts with
    | nil => cases ex
    | cons t ts =>
      rw [List.map_cons] at ex
      injection ex with ex1 ex2
      subst ex1
      rw [List.length_cons] at hl2
      refine ⟨_, rfl, ?_⟩
      and_intros
      refine forD_go (fun xs ρ => ∃ (ws : List Str) (l : List Str) (b : Option (Nat × D)), xs = ws.map .str ∧ ts.foldl addN2 (ws.foldl addN l) = nums ps ∧ l.length + ws.length + 2 * ts.length ≤ 300 ∧ ρ = [some (0, .lst (ps.map tsD)), some (1, sT natD l.zipIdx), some (0, tsD t), b]) ?_ ?_ _ _ ⟨[t.1, t.2.1], l, b, rfl, hf, by simp only [List.length_cons, List.length_nil]; omega, rfl⟩
      · rintro x r ρ ⟨ws, l, b, ex, hf, hl2, rfl⟩ N hN
        cases ws with
        | nil => cases ex
        | cons x ws =>
          rw [List.map_cons] at ex
          injection ex with ex1 ex2
          subst ex1
          rw [List.length_cons] at hl2
          refine ⟨_, rfl, ?_⟩
          and_intros
          refine sin_go ?_
          rw [idx_zip]
          and_intros
          by_cases c : x ∈ l
          · rw [if_pos c]
            and_intros
            refine hN _ ⟨ws, l, _, ex2, ?_, by omega, rfl⟩
            rw [List.foldl_cons] at hf
            rw [← hf]
            unfold addN
            rw [if_pos c]
          · rw [if_neg c]
            and_intros
            have hz : (l.zipIdx.map (kvA qS natD)).length = l.length := by rw [List.length_map, List.length_zipIdx]
            show (ownDK _ 1 0 fun _ => True) ∧ _
            refine ⟨⟨rfl, trivial⟩, _, rfl, ?_⟩
            rw [show D.int ((l.zipIdx.map (kvA qS natD)).length : Int) = natD l.length by rw [hz]]
            refine sput_go (f := natD) (v := l.length) rfl (by rw [szL, List.length_zipIdx]; omega) (hN _ ⟨ws, l ++ [x], some (0, .str x), ex2, ?_, ?_, ?_⟩)
            · rw [List.foldl_cons] at hf
              rw [← hf]
              unfold addN
              rw [if_neg c]
            · rw [List.length_append, List.length_singleton]; omega
            · rw [zip_snoc c]; rfl
      · rintro ρ ⟨ws, l, b, ex, hf, hl2, rfl⟩
        cases ws with
        | cons x ws => cases ex
        | nil => exact hN _ ⟨ts, l, _, _, ex2, hf, by rw [List.length_nil] at hl2; omega, rfl⟩
  · rintro ρ ⟨ts, l, a, b, ex, hf, hl2, rfl⟩
    cases ts with
    | cons k ks => cases ex
    | nil =>
      and_intros
      have hf : l = nums ps := hf
      rw [hf]
      exact hR
abbrev s_edges_of : Stmt := topS 16
theorem sc_edges_of : FnScope ["pool", "numbers", "test"] ["pool", "numbers"] (defScope s_edges_of) := ⟨rfl, rfl, rfl, by decide +kernel, rfl, by decide +kernel, by decide +kernel⟩
theorem ok_edges_of {f : Addr} {fd : FuncData} (F : Fun K "edges_of" "edges_of" s_edges_of f fd) (T : Bi mg)  : FnOk P w K mg base CX0 1 f fd ["pool", "numbers"] (spD K (.own 0) w_edges_of) := by
  refine Fun_okD F sc_edges_of (fun _ _ _ h => by obtain ⟨_, _, e, _, _, _⟩ := h; rw [e]; rfl) fun B cdv A outer s H E hr => ⟨_, (ds_one (ds_retM (dm_of (de_frz (de_lc (own := [("test", 2)]) 0 rfl sc_edges_of.nd (di_list (de_v 0)) (blk_of ["pool", "numbers", "test"] (defScope s_edges_of) rfl (by decide +kernel) (by decide +kernel) (by decide +kernel) (by decide +kernel)) (dgc_name 2 sc_edges_of.nd rfl) (hol_cons rfl (fun _ _ => rfl) hol_nil) (fun _ _ _ _ _ => dts_nil) (fun _ _ _ _ _ => (de_tup (da_cons (m := .own 0) (de_dget (hr.u 1) (de_v 1) (de_at (de_v 2) (de_int (m := .rd)))) (da_cons (m := .own 0) (de_dget (hr.u 1) (de_v 1) (de_at (de_v 2) (de_int (m := .rd)))) (da_cons (m := .own 0) (de_at (de_v 2) (de_int (m := .rd))) da_nil)))))))))), fun ds R ⟨ps, nu, e, hl, hp, hR⟩ => ?_⟩
  subst e
  and_intros
  refine compD_map tsD (fun t => some (edD (nu.idxOf t.2.1, nu.idxOf t.1, t.2.2))) (fun t ht N hN => ?_) (by rw [szL]; omega) ?_
  · refine ⟨_, rfl, ?_⟩
    and_intros
    refine sget_go (by rw [idx_zip, if_pos (hp t ht).2]) ?_
    and_intros
    refine sget_go (by rw [idx_zip, if_pos (hp t ht).1]) ?_
    and_intros
    rw [Nat.zero_add, Nat.zero_add]
    exact ⟨by decide, hN⟩
  · unfold edsD at hR
    rw [List.map_map] at hR
    rw [List.filterMap_eq_map']
    exact hR
abbrev s_law_name : Stmt := topS 25
theorem sc_law_name : FnScope ["bag", "taken", "letters", "size", "word", "at", "k"] ["bag", "taken"] (defScope s_law_name) := ⟨rfl, rfl, rfl, by decide +kernel, rfl, by decide +kernel, by decide +kernel⟩
theorem ok_law_name {f : Addr} {fd : FuncData} (F : Fun K "_law_name" "_law_name" s_law_name f fd) (T : Bi mg) (c_law_draw : Cal P w K mg base "_law_draw" 1 ["bag", "size"] (.own 0) [] wDraw) : FnOk P w K mg base CX0 2 f fd ["bag", "taken"] (spD K (.own 0) w_law_name) := by
  refine Fun_okD F sc_law_name (fun _ _ _ h => by obtain ⟨_, _, _, e, _⟩ := h; rw [e]; rfl) fun B cdv A outer s H E hr => ⟨_, (ds_cons (ds_setM 2 0 sc_law_name.nd rfl (by first | exact Or.inl rfl | exact Or.inr rfl) (by decide) (dm_of (de_str (m := .own 0))))
(ds_cons (ds_setM 3 0 sc_law_name.nd rfl (by first | exact Or.inl rfl | exact Or.inr rfl) (by decide) (dm_of (de_add (m := .own 0) (de_int (m := .rd)) (de_C c_law_draw hr (da_cons (m := .own 0) (de_v 0) (da_cons (m := .own 0) (de_int (m := .own 0)) da_nil))))))
(ds_cons (ds_setM 4 0 sc_law_name.nd rfl (by first | exact Or.inl rfl | exact Or.inr rfl) (by decide) (dm_of (de_repS (m := .own 0) (de_atS (m := .rd) (de_v 2) (de_C c_law_draw hr (da_cons (m := .own 0) (de_v 0) (da_cons (m := .own 0) (de_int (m := .own 0)) da_nil)))) (de_v 3))))
(ds_cons (ds_setM 5 0 sc_law_name.nd rfl (by first | exact Or.inl rfl | exact Or.inr rfl) (by decide) (dm_of (de_C c_law_draw hr (da_cons (m := .own 0) (de_v 0) (da_cons (m := .own 0) (de_v 3) da_nil)))))
(ds_cons (ds_setM 4 0 sc_law_name.nd rfl (by first | exact Or.inl rfl | exact Or.inr rfl) (by decide) (dm_of (de_catS (m := .own 0) (de_catS (m := .rd) (de_slS (m := .rd) (de_v 4) do_none (do_some (de_v 5))) (de_atS (m := .rd) (de_v 2) (de_C c_law_draw hr (da_cons (m := .own 0) (de_v 0) (da_cons (m := .own 0) (de_int (m := .own 0)) da_nil))))) (de_slS (m := .rd) (de_v 4) (do_some (de_add (m := .rd) (de_v 5) (de_int (m := .rd)))) do_none))))
(ds_cons (ds_for PassesOwn.never rfl (di_range T.range_ (de_int (m := .rd))) (dg_name 6 sc_law_name.nd rfl (by first | exact Or.inl rfl | exact Or.inr rfl) (by decide))
(ds_cons (ds_if (dt_bool (dw_and (dt_notin (de_v 4) (de_v 1)) (dw_and1 (dt_notin (de_v 4) (de_frz (de_lst 0 (da_cons (m := .own 0) (de_str (m := .own 0)) (da_cons (m := .own 0) (de_str (m := .own 0)) (da_cons (m := .own 0) (de_str (m := .own 0)) (da_cons (m := .own 0) (de_str (m := .own 0)) (da_cons (m := .own 0) (de_str (m := .own 0)) da_nil)))))))))))
(ds_one (ds_retM (dm_of (de_v 4))))
ds_nil)
(ds_cons (ds_setM 5 0 sc_law_name.nd rfl (by first | exact Or.inl rfl | exact Or.inr rfl) (by decide) (dm_of (de_mod (m := .own 0) (de_int' (m := .rd) T.int_ (de_v 6)) (de_v 3))))
(ds_one (ds_setM 4 0 sc_law_name.nd rfl (by first | exact Or.inl rfl | exact Or.inr rfl) (by decide) (dm_of (de_catS (m := .own 0) (de_catS (m := .rd) (de_slS (m := .rd) (de_v 4) do_none (do_some (de_v 5))) (de_atS (m := .rd) (de_v 2) (de_mod (m := .rd) (de_int' (m := .rd) T.int_ (de_add (m := .rd) (de_find (m := .rd) (de_v 2) (de_atS (m := .rd) (de_v 4) (de_v 5))) (de_int (m := .rd)))) (de_int (m := .rd))))) (de_slS (m := .rd) (de_v 4) (do_some (de_add (m := .rd) (de_v 5) (de_int (m := .rd)))) do_none))))))))
(ds_one (ds_retM (dm_of (de_v 4)))))))))), fun ds R ⟨b, taken, hb, e, hR⟩ => ?_⟩
  subst e
  and_intros
  refine draw_go hb (by decide) (by decide) fun r0 h0 h1 => ?_
  and_intros
  refine draw_go hb (by decide) (by decide) fun r1 h2 h3 => ?_
  and_intros
  refine letter_go h2 h3 fun z hz hz1 => ?_
  and_intros
  have hs : (1 + r0).toNat * z.length ≤ 8 := by rw [hz1]; omega
  refine ⟨by omega, by omega, by rw [szL]; omega, ?_⟩
  have hw0 : (repS z (1 + r0)).length = (1 + r0).toNat := by rw [repS_len, hz1]; omega
  have ok0 := strOk_rep (n := 1 + r0) hz
  generalize repS z (1 + r0) = w0 at hw0 ok0
  refine draw_go hb (by omega) (by omega) fun at0 h4 h5 => ?_
  and_intros
  refine ⟨by rw [szL]; omega, ?_⟩
  refine draw_go hb (by decide) (by decide) fun r2 h6 h7 => ?_
  and_intros
  refine letter_go h6 h7 fun y hy hy1 => ?_
  and_intros
  have a1 : (cutS w0 none (some at0)).length = at0.toNat := cut_to h4 (by omega)
  have a2 : (cutS w0 (some (at0 + 1)) none).length = w0.length - (at0 + 1).toNat := cut_from (by omega) (by omega)
  have an := anew ok0 hy hw0 hy1 h4 (by omega)
  refine ⟨by rw [szL]; omega, by rw [szL]; omega, by rw [szL, len_cat]; omega, by decide, by decide, ?_⟩
  dsimp only
  refine forD_go (fun xs ρ => ∃ (w : Str) (a k : Option (Nat × D)) (js : List Nat), xs = js.map (fun j : Nat => D.int (0 + (j : Int))) ∧ strOk w = true ∧ w.length = (1 + r0).toNat ∧ ρ = [some (0, .raw (.ref b)), some (0, .lst (taken.map .str)), some (0, .str abc), some (0, .int (1 + r0)), some (0, .str w), a, k]) ?_ ?_ _ _ ⟨_, _, _, List.range 200, rfl, an.1, an.2, rfl⟩
  · rintro x r ρ ⟨w, a, k, js, ex, okw, lw, rfl⟩ N hN
    cases js with
    | nil => cases ex
    | cons j js =>
      rw [List.map_cons] at ex
      injection ex with ex1 ex2
      subst ex1
      refine ⟨_, rfl, ?_⟩
      and_intros
      refine ⟨_, rfl, rfl, all_str taken, ?_⟩
      and_intros
      have step : ∀ M : Env → Prop, (∀ ρ2, (∃ (w : Str) (a k : Option (Nat × D)) (js : List Nat), r = js.map (fun j : Nat => D.int (0 + (j : Int))) ∧ strOk w = true ∧ w.length = (1 + r0).toNat ∧ ρ2 = [some (0, .raw (.ref b)), some (0, .lst (taken.map .str)), some (0, .str abc), some (0, .int (1 + r0)), some (0, .str w), a, k]) → M ρ2) → True := fun _ _ => trivial
      have m0 : 0 ≤ (0 + (j : Int)) % (1 + r0) := Int.emod_nonneg _ (by omega)
      have m1 : (0 + (j : Int)) % (1 + r0) < 1 + r0 := Int.emod_lt_of_pos _ (by omega)
      have b1 : (cutS w none (some ((0 + (j : Int)) % (1 + r0)))).length = ((0 + (j : Int)) % (1 + r0)).toNat := cut_to m0 (by omega)
      have b2 : (cutS w (some ((0 + (j : Int)) % (1 + r0) + 1)) none).length = w.length - ((0 + (j : Int)) % (1 + r0) + 1).toNat := cut_from (by omega) (by omega)
      cases hin : (taken.map D.str).any fun z => eqF z (.str w) with
      | false =>
        and_intros
        refine ⟨by decide, _, rfl, rfl, rfl, ?_⟩
        and_intros
        cases hin2 : ([D.str "and", D.str "or", D.str "lacks", D.str "any", D.str "none"] : List D).any fun z => eqF z (.str w) with
        | false =>
          and_intros
          exact hR w okw ⟨fun z => by rw [z] at lw; have : ("" : Str).length = 0 := rfl; omega, by omega⟩
        | true =>
          and_intros
          refine ⟨by omega, by rw [szL]; omega, trivial, sign_go (by omega) m0 (by omega) fun y => ?_⟩
          and_intros
          refine ⟨by decide, letter_go (Int.emod_nonneg _ (by decide)) (Int.emod_lt_of_pos _ (by decide)) fun v hv hv1 => ?_⟩
          and_intros
          have an2 := anew okw hv lw hv1 m0 (by omega)
          exact ⟨by rw [szL]; omega, by rw [szL]; omega, by rw [szL, len_cat]; omega, hN _ ⟨_, _, _, js, ex2, an2.1, an2.2, rfl⟩⟩
      | true =>
        and_intros
        refine ⟨by omega, by rw [szL]; omega, trivial, sign_go (by omega) m0 (by omega) fun y => ?_⟩
        and_intros
        refine ⟨by decide, letter_go (Int.emod_nonneg _ (by decide)) (Int.emod_lt_of_pos _ (by decide)) fun v hv hv1 => ?_⟩
        and_intros
        have an2 := anew okw hv lw hv1 m0 (by omega)
        exact ⟨by rw [szL]; omega, by rw [szL]; omega, by rw [szL, len_cat]; omega, hN _ ⟨_, _, _, js, ex2, an2.1, an2.2, rfl⟩⟩
  · rintro ρ ⟨w, a, k, js, ex, okw, lw, rfl⟩
    and_intros
    exact hR w okw ⟨fun z => by rw [z] at lw; have : ("" : Str).length = 0 := rfl; omega, by omega⟩
abbrev s_law_names : Stmt := topS 26
theorem sc_law_names : FnScope ["bag", "count", "names", "k"] ["bag", "count"] (defScope s_law_names) := ⟨rfl, rfl, rfl, by decide +kernel, rfl, by decide +kernel, by decide +kernel⟩
theorem ok_law_names {f : Addr} {fd : FuncData} (F : Fun K "_law_names" "_law_names" s_law_names f fd) (T : Bi mg) (c_law_name : Cal P w K mg base "_law_name" 2 ["bag", "taken"] (.own 0) [] w_law_name) : FnOk P w K mg base CX0 3 f fd ["bag", "count"] (spD K (.own 0) w_law_names) := by
  refine Fun_okD F sc_law_names (fun _ _ _ h => by obtain ⟨_, _, _, e, _, _⟩ := h; rw [e]; rfl) fun B cdv A outer s H E hr => ⟨_, (ds_cons (ds_setM 2 1 sc_law_names.nd rfl (by first | exact Or.inl rfl | exact Or.inr rfl) (by decide) (dm_of (de_lst 0 da_nil)))
(ds_cons (ds_for PassesOwn.never rfl (di_range T.range_ (de_v 1)) (dg_name 3 sc_law_names.nd rfl (by first | exact Or.inl rfl | exact Or.inr rfl) (by decide))
(ds_one (ds_exprM (m := .own 0) (dm_append 2 0 (dm_of (de_CR (n := 0) c_law_name hr (da_cons (m := .rd) (de_rd (de_v 0)) (da_cons (m := .rd) (de_rd (de_var 2 1)) da_nil))))))))
(ds_one (ds_frz 2 (ds_retM (dm_of (de_v 2))))))), fun ds R ⟨b, n, hb, e, hn, hR⟩ => ?_⟩
  subst e
  and_intros
  refine ⟨by decide, rng_go (by omega) ?_⟩
  refine forD_go (fun xs ρ => ∃ (js : List Nat) (ss : List Str) (k : Option (Nat × D)), xs = js.map natD ∧ ss.length + js.length = n ∧ (∀ s ∈ ss, strOk s = true ∧ s ≠ "" ∧ s.length ≤ 8) ∧ ρ = [some (0, .raw (.ref b)), some (0, natD n), some (1, .lst (ss.map .str)), k]) ?_ ?_ _ _ ⟨List.range' 0 n, [], none, rfl, by rw [List.length_range']; simp, fun s h => (by cases h), rfl⟩
  · rintro x r ρ ⟨js, ss, k, ex, hl, ok, rfl⟩ N hN
    cases js with
    | nil => cases ex
    | cons j js =>
      rw [List.map_cons] at ex
      injection ex with ex1 ex2
      subst ex1
      rw [List.length_cons] at hl
      refine ⟨_, rfl, ?_⟩
      and_intros
      refine ⟨b, ss, hb, rfl, fun s hs h0 => ⟨rfl, ?_⟩⟩
      and_intros
      refine ⟨by rw [List.length_map, szL]; omega, hN _ ⟨js, ss ++ [s], _, ex2, by rw [List.length_append, List.length_singleton]; omega, fun y hy => ?_, by rw [List.map_append]; rfl⟩⟩
      rcases List.mem_append.mp hy with z | z
      · exact ok y z
      · rw [List.mem_singleton.mp z]; exact ⟨hs, h0⟩
  · rintro ρ ⟨js, ss, k, ex, hl, ok, rfl⟩
    cases js with
    | cons j js => cases ex
    | nil =>
      and_intros
      exact hR ss hl ok
abbrev s_law_condition : Stmt := topS 27
theorem sc_law_condition : FnScope ["bag", "attrs", "top", "kind", "at", "name", "other", "bound"] ["bag", "attrs", "top"] (defScope s_law_condition) := ⟨rfl, rfl, rfl, by decide +kernel, rfl, by decide +kernel, by decide +kernel⟩
theorem ok_law_condition {f : Addr} {fd : FuncData} (F : Fun K "_law_condition" "_law_condition" s_law_condition f fd) (T : Bi mg) (c_law_draw : Cal P w K mg base "_law_draw" 1 ["bag", "size"] (.own 0) [] wDraw) : FnOk P w K mg base CX0 2 f fd ["bag", "attrs", "top"] (spD K (.own 0) w_law_condition) := by
  refine Fun_okD F sc_law_condition (fun _ _ _ h => by obtain ⟨_, _, _, _, e, _, _, _, _⟩ := h; rw [e]; rfl) fun B cdv A outer s H E hr => ⟨_, (ds_cons (ds_setM 3 0 sc_law_condition.nd rfl (by first | exact Or.inl rfl | exact Or.inr rfl) (by decide) (dm_of (de_C c_law_draw hr (da_cons (m := .own 0) (de_v 0) (da_cons (m := .own 0) (de_int (m := .own 0)) da_nil)))))
(ds_cons (ds_setM 4 0 sc_law_condition.nd rfl (by first | exact Or.inl rfl | exact Or.inr rfl) (by decide) (dm_of (de_C c_law_draw hr (da_cons (m := .own 0) (de_v 0) (da_cons (m := .own 0) (de_len (m := .own 0) T.len_ (de_v 1)) da_nil)))))
(ds_cons (ds_setM 5 0 sc_law_condition.nd rfl (by first | exact Or.inl rfl | exact Or.inr rfl) (by decide) (dm_of (de_at (de_v 1) (de_v 4))))
(ds_cons (ds_setM 6 0 sc_law_condition.nd rfl (by first | exact Or.inl rfl | exact Or.inr rfl) (by decide) (dm_of (de_at (de_v 1) (de_mod (m := .rd) (de_int' (m := .rd) T.int_ (de_add (m := .rd) (de_v 4) (de_int (m := .rd)))) (de_len (m := .rd) T.len_ (de_v 1))))))
(ds_cons (ds_if (dt_eq (de_v 3) (de_int (m := .rd)))
(ds_one (ds_retM (dm_of (de_tup (da_cons (m := .own 0) (de_str (m := .own 0)) (da_cons (m := .own 0) (de_v 5) da_nil))))))
ds_nil)
(ds_cons (ds_setM 7 0 sc_law_condition.nd rfl (by first | exact Or.inl rfl | exact Or.inr rfl) (by decide) (dm_of (de_C c_law_draw hr (da_cons (m := .own 0) (de_v 0) (da_cons (m := .own 0) (de_add (m := .own 0) (de_v 2) (de_int (m := .rd))) da_nil)))))
(ds_cons (ds_if (dt_bool (dw_or (dt_lt (de_v 3) (de_int (m := .rd))) (dw_or1 (dt_bool (dw_and (dt_gt (de_v 3) (de_int (m := .rd))) (dw_and1 (dt_eq (de_v 6) (de_v 5))))))))
(ds_one (ds_retM (dm_of (de_tup (da_cons (m := .own 0) (de_str (m := .own 0)) (da_cons (m := .own 0) (de_v 5) (da_cons (m := .own 0) (de_str (m := .own 0)) (da_cons (m := .own 0) (de_v 7) da_nil))))))))
ds_nil)
(ds_cons (ds_if (dt_lt (de_v 3) (de_int (m := .rd)))
(ds_one (ds_retM (dm_of (de_tup (da_cons (m := .own 0) (de_str (m := .own 0)) (da_cons (m := .own 0) (de_str (m := .own 0)) (da_cons (m := .own 0) (de_v 5) (da_cons (m := .own 0) (de_sub (m := .own 0) (de_int (m := .rd)) (de_v 7)) da_nil))))))))
ds_nil)
(ds_one (ds_retM (dm_of (de_tup (da_cons (m := .own 0) (de_str (m := .own 0)) (da_cons (m := .own 0) (de_v 5) (da_cons (m := .own 0) (de_v 6) (da_cons (m := .own 0) (de_sub (m := .own 0) (de_v 7) (de_div (m := .rd) (de_v 2) (de_int (m := .rd)))) da_nil)))))))))))))))), fun ds R ⟨b, nm, top, hb, e, hn, hl, ht, hR⟩ => ?_⟩
  subst e
  and_intros
  have n1 : 0 < nm.length := List.length_pos_iff.mpr hn
  refine drawN 8 hb (by decide) (by decide) fun k hk => ?_
  and_intros
  rw [List.length_map]
  refine drawN nm.length hb n1 (by omega) fun a ha => ?_
  refine gIx_nat (str_get ha) ?_
  and_intros
  have hj : (a + 1) % nm.length < nm.length := Nat.mod_lt _ n1
  refine ⟨by omega, ?_⟩
  rw [show ((a : Int) + 1) % (nm.length : Int) = (((a + 1) % nm.length : Nat) : Int) from rfl]
  refine gIx_nat (str_get hj) ?_
  and_intros
  have fin : ∀ (x y : Str) (c : Int), x ∈ ("" : Str) :: nm → y ∈ ("" : Str) :: nm → R (.tup [.str "most", .str x, .str y, .int c]) := fun x y c hx hy => hR (.most (x, y, c)) ⟨hx, hy⟩
  have m0 : ("" : Str) ∈ ("" : Str) :: nm := List.mem_cons_self
  have m1 : nm[a] ∈ ("" : Str) :: nm := List.mem_cons_of_mem _ (List.getElem_mem ha)
  have m2 : nm[(a + 1) % nm.length] ∈ ("" : Str) :: nm := List.mem_cons_of_mem _ (List.getElem_mem hj)
  by_cases k0 : (k : Int) = 0
  · rw [decide_eq_true k0]
    and_intros
    exact ⟨by decide, hR (.lacks nm[a]) m1⟩
  rw [decide_eq_false k0]
  and_intros
  refine draw_go hb (by omega) (by omega) fun v v0 v1 => ?_
  and_intros
  by_cases k3 : (k : Int) < 3
  · rw [decide_eq_true k3]
    and_intros
    exact ⟨by decide, fin _ _ _ m1 m0⟩
  rw [decide_eq_false k3]
  and_intros
  by_cases k4 : 4 < (k : Int)
  · rw [decide_eq_true k4]
    and_intros
    by_cases q : nm[(a + 1) % nm.length] = nm[a]
    · rw [decide_eq_true q]
      and_intros
      exact ⟨by decide, fin _ _ _ m1 m0⟩
    · rw [decide_eq_false q, decide_eq_false (by omega)]
      and_intros
      exact ⟨⟨by decide, by decide⟩, by decide, fin _ _ _ m1 m2⟩
  · rw [decide_eq_false k4]
    and_intros
    by_cases k5 : (k : Int) < 5
    · rw [decide_eq_true k5]
      and_intros
      exact ⟨by decide, fin _ _ _ m0 m1⟩
    · rw [decide_eq_false k5]
      and_intros
      exact ⟨⟨by decide, by decide⟩, by decide, fin _ _ _ m1 m2⟩
abbrev s_law_used : Stmt := topS 28
theorem sc_law_used : FnScope ["alternative", "names", "condition", "name"] ["alternative"] (defScope s_law_used) := ⟨rfl, rfl, rfl, by decide +kernel, rfl, by decide +kernel, by decide +kernel⟩
theorem ok_law_used {f : Addr} {fd : FuncData} (F : Fun K "_law_used" "_law_used" s_law_used f fd) (T : Bi mg)  : FnOk P w K mg base CX0 1 f fd ["alternative"] (spD K (.own 0) w_law_used) := by
  refine Fun_okD F sc_law_used (fun _ _ _ h => by obtain ⟨_, e, _, _⟩ := h; rw [e]; rfl) fun B cdv A outer s H E hr => ⟨_, (ds_cons (ds_setM 1 1 sc_law_used.nd rfl (by first | exact Or.inl rfl | exact Or.inr rfl) (by decide) (dm_of (de_lst 0 da_nil)))
(ds_cons (ds_for PassesOwn.never rfl (di_list (de_v 0)) (dg_name 2 sc_law_used.nd rfl (by first | exact Or.inl rfl | exact Or.inr rfl) (by decide))
(ds_one (ds_for PassesOwn.never rfl (di_tup (de_slT (de_v 2) (do_some (de_int (m := .rd))) (do_some (de_int (m := .rd))))) (dg_name 3 sc_law_used.nd rfl (by first | exact Or.inl rfl | exact Or.inr rfl) (by decide))
(ds_one (ds_if (dt_bool (dw_and (dt_eq (de_at (de_v 2) (de_int (m := .rd))) (de_str (m := .rd))) (dw_and (dt_ne (de_v 3) (de_str (m := .rd))) (dw_and1 (dt_notin (de_v 3) (de_var 1 1))))))
(ds_one (ds_exprM (m := .own 0) (dm_append 1 0 (dm_of (de_v 3)))))
ds_nil)))))
(ds_one (ds_frz 1 (ds_retM (dm_of (de_frz (de_sorted (hr.u 67) T.sorted_ (de_v 1))))))))), fun ds R ⟨cs, e, ok, hR⟩ => ?_⟩
  subst e
  and_intros
  refine ⟨Nat.zero_le _, ?_⟩
  refine forD_go (fun xs ρ => ∃ (l : List Cond) (us : List Str) (a b : Option (Nat × D)), xs = l.map cnD ∧ (tests l).foldl N7.addT us = used (tests cs) ∧ us.length + 2 * l.length ≤ 40 ∧ ρ = [some (0, .lst (cs.map cnD)), some (1, .lst (us.map .str)), a, b]) ?_ ?_ _ _ ⟨cs, [], none, none, rfl, rfl, by have := ok.len; rw [List.length_nil]; omega, rfl⟩
  · rintro x r ρ ⟨l, us, a, b, ex, hf, hl, rfl⟩ N hN
    cases l with
    | nil => cases ex
    | cons c l =>
      rw [List.map_cons] at ex
      injection ex with ex1 ex2
      subst ex1
      rw [List.length_cons] at hl
      refine ⟨_, rfl, ?_⟩
      cases c with
      | lacks n =>
        and_intros
        refine forD_go (fun xs ρ => ∃ (ws : List Str) (b : Option (Nat × D)), xs = ws.map .str ∧ ρ = [some (0, .lst (cs.map cnD)), some (1, .lst (us.map .str)), some (0, lkD n), b]) ?_ ?_ _ _ ⟨[n], b, rfl, rfl⟩
        · rintro x r ρ ⟨ws, b, ex, rfl⟩ N hN
          cases ws with
          | nil => cases ex
          | cons x ws =>
            rw [List.map_cons] at ex
            injection ex with ex1 ex2
            subst ex1
            refine ⟨_, rfl, ?_⟩
            and_intros
            exact hN _ ⟨ws, _, ex2, rfl⟩
        · rintro ρ ⟨ws, b, ex, rfl⟩
          cases ws with
          | cons x ws => cases ex
          | nil => exact hN _ ⟨l, us, _, _, ex2, hf, by omega, rfl⟩
      | most t =>
        and_intros
        refine forD_go (fun xs ρ => ∃ (ws : List Str) (us : List Str) (b : Option (Nat × D)), xs = ws.map .str ∧ (tests l).foldl N7.addT (ws.foldl addW us) = used (tests cs) ∧ us.length + ws.length + 2 * l.length ≤ 40 ∧ ρ = [some (0, .lst (cs.map cnD)), some (1, .lst (us.map .str)), some (0, tsD t), b]) ?_ ?_ _ _ ⟨[t.1, t.2.1], us, b, rfl, hf, by simp only [List.length_cons, List.length_nil]; omega, rfl⟩
        · rintro x r ρ ⟨ws, us, b, ex, hf, hl, rfl⟩ N hN
          cases ws with
          | nil => cases ex
          | cons x ws =>
            rw [List.map_cons] at ex
            injection ex with ex1 ex2
            subst ex1
            rw [List.length_cons] at hl
            refine ⟨_, rfl, ?_⟩
            and_intros
            rw [List.foldl_cons] at hf
            unfold addW at hf
            by_cases c : x = ""
            · rw [decide_eq_true c]
              and_intros
              rw [if_neg fun z => z.1 c] at hf
              exact hN _ ⟨ws, us, _, ex2, hf, by omega, rfl⟩
            · rw [decide_eq_false c]
              and_intros
              refine gIn_strs ?_
              and_intros
              by_cases q : x ∈ us
              · rw [decide_eq_true q]
                and_intros
                rw [if_neg fun z => z.2 q] at hf
                exact hN _ ⟨ws, us, _, ex2, hf, by omega, rfl⟩
              · rw [decide_eq_false q]
                and_intros
                rw [if_pos ⟨c, q⟩] at hf
                refine ⟨by rw [List.length_map, szL]; omega, hN _ ⟨ws, us ++ [x], _, ex2, hf, by rw [List.length_append, List.length_singleton]; omega, by rw [List.map_append]; rfl⟩⟩
        · rintro ρ ⟨ws, us, b, ex, hf, hl, rfl⟩
          cases ws with
          | cons x ws => cases ex
          | nil => exact hN _ ⟨l, us, _, _, ex2, hf, by rw [List.length_nil] at hl; omega, rfl⟩
  · rintro ρ ⟨l, us, a, b, ex, hf, hl, rfl⟩
    cases l with
    | cons k ks => cases ex
    | nil =>
      and_intros
      have hf : us = used (tests cs) := hf
      subst hf
      refine ⟨sort_strs (used_ok ok.ok), ?_⟩
      rw [map_sort_strs]
      exact hR
abbrev s_law_lacked : Stmt := topS 29
theorem sc_law_lacked : FnScope ["alternative", "condition"] ["alternative"] (defScope s_law_lacked) := ⟨rfl, rfl, rfl, by decide +kernel, rfl, by decide +kernel, by decide +kernel⟩
theorem ok_law_lacked {f : Addr} {fd : FuncData} (F : Fun K "_law_lacked" "_law_lacked" s_law_lacked f fd) (T : Bi mg)  : FnOk P w K mg base CX0 1 f fd ["alternative"] (spD K (.own 0) w_law_lacked) := by
  refine Fun_okD F sc_law_lacked (fun _ _ _ h => by obtain ⟨_, e, _, _⟩ := h; rw [e]; rfl) fun B cdv A outer s H E hr => ⟨_, (ds_one (ds_retM (dm_of (de_frz (de_lc (own := [("condition", 1)]) 0 rfl sc_law_lacked.nd (di_list (de_v 0)) (blk_of ["alternative", "condition"] (defScope s_law_lacked) rfl (by decide +kernel) (by decide +kernel) (by decide +kernel) (by decide +kernel)) (dgc_name 1 sc_law_lacked.nd rfl) (hol_cons rfl (fun _ _ => rfl) hol_nil) (fun _ _ _ _ _ => dts_one (dt_eq (de_at (de_v 1) (de_int (m := .rd))) (de_str (m := .rd)))) (fun _ _ _ _ _ => (de_at (de_v 1) (de_int (m := .rd))))))))), fun ds R ⟨cs, e, ok, hR⟩ => ?_⟩
  subst e
  and_intros
  refine compD_map cnD (fun c => (lack1 c).map .str) (fun c hc N hN => ?_) (by have := ok.len; rw [szL]; omega) ?_
  · refine ⟨_, rfl, ?_⟩
    cases c with
    | lacks n =>
      and_intros
      exact hN
    | most t =>
      and_intros
      exact hN
  · unfold lacked at hR
    rw [List.map_filterMap] at hR
    exact hR
abbrev s_law_closed : Stmt := topS 30
theorem sc_law_closed : FnScope ["tests", "names", "words", "rows", "x", "y", "test", "z"] ["tests", "names"] (defScope s_law_closed) := ⟨rfl, rfl, rfl, by decide +kernel, rfl, by decide +kernel, by decide +kernel⟩
theorem ok_law_closed {f : Addr} {fd : FuncData} (F : Fun K "_law_closed" "_law_closed" s_law_closed f fd) (T : Bi mg)  : FnOk P w K mg base CX0 1 f fd ["tests", "names"] (spD K (.own 0) w_law_closed) := by
  refine Fun_okD F sc_law_closed (fun _ _ _ h => by obtain ⟨_, _, e, _, _, _, _, _, _⟩ := h; rw [e]; rfl) fun B cdv A outer s H E hr => ⟨_, (ds_cons (ds_setM 2 0 sc_law_closed.nd rfl (by first | exact Or.inl rfl | exact Or.inr rfl) (by decide) (dm_of (de_frz (de_cat (de_frz (de_lst 0 (da_cons (m := .own 0) (de_str (m := .own 0)) da_nil))) (de_frz (de_sorted (hr.u 67) T.sorted_ (de_v 1)))))))
(ds_cons (ds_setM 3 1 sc_law_closed.nd rfl (by first | exact Or.inl rfl | exact Or.inr rfl) (by decide) (dm_of (de_dnewT 0)))
(ds_cons (ds_for PassesOwn.never rfl (di_list (de_v 2)) (dg_name 4 sc_law_closed.nd rfl (by first | exact Or.inl rfl | exact Or.inr rfl) (by decide))
(ds_one (ds_for PassesOwn.never rfl (di_list (de_v 2)) (dg_name 5 sc_law_closed.nd rfl (by first | exact Or.inl rfl | exact Or.inr rfl) (by decide))
(ds_cons (ds_putT 3 (hr.u 1) (dm_of (de_int (m := .own 0))) (de_tup (da_cons (m := .own 0) (de_v 4) (da_cons (m := .own 0) (de_v 5) da_nil))))
(ds_one (ds_if (dt_bool (dw_or (dt_eq (de_v 4) (de_v 5)) (dw_or1 (dt_eq (de_v 4) (de_str (m := .rd))))))
(ds_one (ds_putT 3 (hr.u 1) (dm_of (de_int (m := .own 0))) (de_tup (da_cons (m := .own 0) (de_v 4) (da_cons (m := .own 0) (de_v 5) da_nil)))))
ds_nil))))))
(ds_cons (ds_for PassesOwn.never rfl (di_list (de_v 0)) (dg_name 6 sc_law_closed.nd rfl (by first | exact Or.inl rfl | exact Or.inr rfl) (by decide))
(ds_one (ds_putT 3 (hr.u 1) (dm_of (de_min2 (m := .own 0) rfl T.min_ (de_dget (hr.u 1) (de_var 3 1) (de_tup (da_cons (m := .own 0) (de_at (de_v 6) (de_int (m := .rd))) (da_cons (m := .own 0) (de_at (de_v 6) (de_int (m := .rd))) da_nil)))) (de_at (de_v 6) (de_int (m := .rd))))) (de_tup (da_cons (m := .own 0) (de_at (de_v 6) (de_int (m := .rd))) (da_cons (m := .own 0) (de_at (de_v 6) (de_int (m := .rd))) da_nil))))))
(ds_cons (ds_for PassesOwn.never rfl (di_list (de_v 2)) (dg_name 5 sc_law_closed.nd rfl (by first | exact Or.inl rfl | exact Or.inr rfl) (by decide))
(ds_one (ds_for PassesOwn.never rfl (di_list (de_v 2)) (dg_name 4 sc_law_closed.nd rfl (by first | exact Or.inl rfl | exact Or.inr rfl) (by decide))
(ds_one (ds_for PassesOwn.never rfl (di_list (de_v 2)) (dg_name 7 sc_law_closed.nd rfl (by first | exact Or.inl rfl | exact Or.inr rfl) (by decide))
(ds_one (ds_putT 3 (hr.u 1) (dm_of (de_min2 (m := .own 0) rfl T.min_ (de_dget (hr.u 1) (de_var 3 1) (de_tup (da_cons (m := .own 0) (de_v 4) (da_cons (m := .own 0) (de_v 7) da_nil)))) (de_add (m := .rd) (de_dget (hr.u 1) (de_var 3 1) (de_tup (da_cons (m := .own 0) (de_v 4) (da_cons (m := .own 0) (de_v 5) da_nil)))) (de_dget (hr.u 1) (de_var 3 1) (de_tup (da_cons (m := .own 0) (de_v 5) (da_cons (m := .own 0) (de_v 7) da_nil))))))) (de_tup (da_cons (m := .own 0) (de_v 4) (da_cons (m := .own 0) (de_v 7) da_nil))))))))))
(ds_cons (ds_frz 3 (ds_for PassesOwn.never rfl (di_list (de_v 2)) (dg_name 4 sc_law_closed.nd rfl (by first | exact Or.inl rfl | exact Or.inr rfl) (by decide))
(ds_one (ds_if (dt_lt (de_dget (hr.u 1) (de_v 3) (de_tup (da_cons (m := .own 0) (de_v 4) (da_cons (m := .own 0) (de_v 4) da_nil)))) (de_int (m := .rd)))
(ds_one (ds_retM (dm_of (de_non (m := .own 0)))))
ds_nil))))
(ds_one (ds_retM (dm_of (de_v 3)))))))))), fun ds R ⟨ts, nm, e, nd, hl, hm, hs, ht, hR⟩ => ?_⟩
  subst e
  and_intros
  refine ⟨by decide, sort_strs hs, ?_⟩
  rw [map_sort_strs, hm]
  have hlw : ((("" : Str) :: nm).length ≤ 100) := by rw [List.length_cons]; omega
  refine ⟨by
    show 1 + (nm.map D.str).length ≤ sizeLine
    rw [List.length_map, szL]; omega, ?_⟩
  and_intros
  have hts := ht
  change forD (tgN 4) _ ((("" : Str) :: nm).map .str) _ [some (0, .lst (ts.map tsD)), some (0, .lst (nm.map .str)), some (0, D.lst ((("" : Str) :: nm).map .str)), some (1, pT D.int (partG (("" : Str) :: nm) [])), none, none, none, none]
  generalize (("" : Str) :: nm) = ws at *
  refine forD_go (fun xs ρ => ∃ (dn rs : List Str) (v4 v5 v6 v7 : Option (Nat × D)), dn ++ rs = ws ∧ xs = rs.map .str ∧ ρ = [some (0, .lst (ts.map tsD)), some (0, .lst (nm.map .str)), some (0, .lst (ws.map .str)), some (1, pT D.int (partG ws dn)), v4, v5, v6, v7]) ?_ ?_ _ _ ⟨[], ws, _, _, _, _, rfl, rfl, rfl⟩
  · rintro x r ρ ⟨dn, rs, v4, v5, v6, v7, hd, ex, rfl⟩ N hN
    cases rs with
    | nil => cases ex
    | cons x rs =>
      rw [List.map_cons] at ex
      injection ex with ex1 ex2
      subst ex1
      have hxn : x ∉ dn := fun z => by
        rw [← hd] at nd
        exact (List.nodup_append.mp nd).2.2 x z x List.mem_cons_self rfl
      have hdl : dn.length ≤ 100 := by
        have := congrArg List.length hd
        rw [List.length_append] at this; omega
      refine ⟨_, rfl, ?_⟩
      and_intros
      refine forD_go (fun xs ρ => ∃ (en qs : List Str) (v5 v6 v7 : Option (Nat × D)), en ++ qs = ws ∧ xs = qs.map .str ∧ ρ = [some (0, .lst (ts.map tsD)), some (0, .lst (nm.map .str)), some (0, .lst (ws.map .str)), some (1, pT D.int (partG ws dn ++ rowG x en)), some (0, .str x), v5, v6, v7]) ?_ ?_ _ _ ⟨[], ws, _, _, _, rfl, rfl, by rw [show rowG x [] = [] from rfl, List.append_nil]⟩
      · rintro y q ρ ⟨en, qs, v5, v6, v7, he, ey, rfl⟩ N hN
        cases qs with
        | nil => cases ey
        | cons y qs =>
          rw [List.map_cons] at ey
          injection ey with ey1 ey2
          subst ey1
          have hyn : y ∉ en := fun z => by
            rw [← he] at nd
            exact (List.nodup_append.mp nd).2.2 y z y List.mem_cons_self rfl
          have hel : en.length ≤ 100 := by
            have := congrArg List.length he
            rw [List.length_append] at this; omega
          have hll := lay_len (ws := ws) (xs := dn) (ys := en) (x := x) hlw hdl hel
          refine ⟨_, rfl, ?_⟩
          and_intros
          refine ⟨⟨rfl, trivial⟩, by decide, _, rfl, own_pT (m := partG ws dn ++ rowG x en) (f := D.int) rfl ⟨by rw [List.length_map]; exact Nat.lt_of_le_of_lt (Nat.le_add_right _ 2) hll, ?_⟩⟩
          rw [put_pT (f := D.int) (v := 9999), iA_new (lay_key hxn hyn)]
          have fin : g0 x y = 0 → N [some (0, .lst (ts.map tsD)), some (0, .lst (nm.map .str)), some (0, .lst (ws.map .str)), some (1, pT D.int (iA ((partG ws dn ++ rowG x en) ++ [((x, y), 9999)]) (x, y) 0)), some (0, .str x), some (0, .str y), v6, v7] := fun e0 => by
            rw [lay_put hxn hyn]
            refine hN _ ⟨en ++ [y], qs, some (0, .str y), v6, v7, by rw [List.append_assoc]; exact he, ey2, ?_⟩
            rw [row_snoc, e0, ← List.append_assoc]
          by_cases c : x = y
          · rw [decide_eq_true c]
            and_intros
            exact ⟨⟨rfl, trivial⟩, by decide, _, rfl, own_pT (m := (partG ws dn ++ rowG x en) ++ [((x, y), 9999)]) (f := D.int) rfl ⟨by rw [List.length_map, List.length_append, List.length_singleton]; omega, by rw [put_pT (f := D.int) (v := 0)]; exact fin (if_pos (.inl c))⟩⟩
          · rw [decide_eq_false c]
            and_intros
            by_cases c2 : x = ""
            · rw [decide_eq_true c2]
              and_intros
              exact ⟨⟨rfl, trivial⟩, by decide, _, rfl, own_pT (m := (partG ws dn ++ rowG x en) ++ [((x, y), 9999)]) (f := D.int) rfl ⟨by rw [List.length_map, List.length_append, List.length_singleton]; omega, by rw [put_pT (f := D.int) (v := 0)]; exact fin (if_pos (.inr c2))⟩⟩
            · rw [decide_eq_false c2]
              and_intros
              refine hN _ ⟨en ++ [y], qs, some (0, .str y), v6, v7, by rw [List.append_assoc]; exact he, ey2, ?_⟩
              rw [row_snoc, ← List.append_assoc, show g0 x y = 9999 from if_neg fun z => z.elim c c2]
              rfl
      · rintro ρ ⟨en, qs, v5, v6, v7, he, ey, rfl⟩
        cases qs with
        | cons y qs => cases ey
        | nil =>
          rw [List.append_nil] at he
          subst he
          refine hN _ ⟨dn ++ [x], rs, some (0, .str x), v5, v6, v7, by rw [List.append_assoc]; exact hd, ex2, ?_⟩
          rw [partG_snoc]
  · rintro ρ ⟨dn, rs, v4, v5, v6, v7, hd, ex, rfl⟩
    cases rs with
    | cons x rs => cases ex
    | nil =>
      rw [List.append_nil] at hd
      rw [hd, partG_all]
      clear hd ex dn
      and_intros

      refine forD_go (fun xs ρ => ∃ (us : List Tst) (g : Sm) (v4 v5 v6 v7 : Option (Nat × D)), xs = us.map tsD ∧ (∀ t ∈ us, t.1 ∈ ws ∧ t.2.1 ∈ ws) ∧ us.foldl pT1 g = clo0 ts ∧ ρ = [some (0, .lst (ts.map tsD)), some (0, .lst (nm.map .str)), some (0, .lst (ws.map .str)), some (1, smD ws g), v4, v5, v6, v7]) ?_ ?_ _ _ ⟨ts, g0, _, _, _, _, rfl, hts, rfl, rfl⟩
      · rintro x r ρ ⟨us, g, v4, v5, v6, v7, ex, hu, hf, rfl⟩ N hN
        cases us with
        | nil => cases ex
        | cons t us =>
          rw [List.map_cons] at ex
          injection ex with ex1 ex2
          subst ex1
          have ht := hu t List.mem_cons_self
          refine ⟨_, rfl, ?_⟩
          and_intros
          refine ⟨by decide, smget_go ht.1 ht.2 ?_⟩
          and_intros
          refine ⟨⟨rfl, trivial⟩, by decide, smput_go ht.1 ht.2 hlw rfl (hN _ ⟨us, pT1 g t, _, _, _, _, ex2, fun s hs => hu s (List.mem_cons_of_mem _ hs), hf, rfl⟩)⟩
      · rintro ρ ⟨us, g, v4, v5, v6, v7, ex, hu, hf, rfl⟩
        cases us with
        | cons x rs => cases ex
        | nil =>
          have hf : g = clo0 ts := hf
          subst hf
          clear hu ex
          and_intros
          refine forD_go (fun xs ρ => ∃ (l : List Str) (g : Sm) (v4 v5 v6 v7 : Option (Nat × D)), xs = l.map .str ∧ (∀ w ∈ l, w ∈ ws) ∧ l.foldl (pass ws) g = clo ws ts ∧ ρ = [some (0, .lst (ts.map tsD)), some (0, .lst (nm.map .str)), some (0, .lst (ws.map .str)), some (1, smD ws g), v4, v5, v6, v7]) ?_ ?_ _ _ ⟨ws, clo0 ts, _, _, _, _, rfl, fun _ h => h, rfl, rfl⟩
          · rintro x r ρ ⟨l, g, v4, v5, v6, v7, ex, hl, hf, rfl⟩ N hN
            cases l with
            | nil => cases ex
            | cons y l =>
              rw [List.map_cons] at ex
              injection ex with ex1 ex2
              subst ex1
              have hy := hl y List.mem_cons_self
              refine ⟨_, rfl, ?_⟩
              and_intros
              refine forD_go (fun xs ρ => ∃ (k : List Str) (g : Sm) (v4 v6 v7 : Option (Nat × D)), xs = k.map .str ∧ (∀ w ∈ k, w ∈ ws) ∧ l.foldl (pass ws) (k.foldl (rowP ws y) g) = clo ws ts ∧ ρ = [some (0, .lst (ts.map tsD)), some (0, .lst (nm.map .str)), some (0, .lst (ws.map .str)), some (1, smD ws g), v4, some (0, .str y), v6, v7]) ?_ ?_ _ _ ⟨ws, g, _, _, _, rfl, fun _ h => h, hf, rfl⟩
              · rintro x r ρ ⟨k, g, v4, v6, v7, ex, hk, hf, rfl⟩ N hN
                cases k with
                | nil => cases ex
                | cons x k =>
                  rw [List.map_cons] at ex
                  injection ex with ex1 ex2
                  subst ex1
                  have hx := hk x List.mem_cons_self
                  refine ⟨_, rfl, ?_⟩
                  and_intros
                  refine forD_go (fun xs ρ => ∃ (j : List Str) (g : Sm) (v6 v7 : Option (Nat × D)), xs = j.map .str ∧ (∀ w ∈ j, w ∈ ws) ∧ l.foldl (pass ws) (k.foldl (rowP ws y) (j.foldl (rx y x) g)) = clo ws ts ∧ ρ = [some (0, .lst (ts.map tsD)), some (0, .lst (nm.map .str)), some (0, .lst (ws.map .str)), some (1, smD ws g), some (0, .str x), some (0, .str y), v6, v7]) ?_ ?_ _ _ ⟨ws, g, _, _, rfl, fun _ h => h, hf, rfl⟩
                  · rintro z r ρ ⟨j, g, v6, v7, ex, hj, hf, rfl⟩ N hN
                    cases j with
                    | nil => cases ex
                    | cons z j =>
                      rw [List.map_cons] at ex
                      injection ex with ex1 ex2
                      subst ex1
                      have hz := hj z List.mem_cons_self
                      refine ⟨_, rfl, ?_⟩
                      and_intros
                      refine ⟨by decide, smget_go hx hz ?_⟩
                      and_intros
                      refine ⟨by decide, smget_go hx hy ?_⟩
                      and_intros
                      refine ⟨by decide, smget_go hy hz ?_⟩
                      and_intros
                      refine ⟨⟨rfl, trivial⟩, by decide, smput_go hx hz hlw rfl (hN _ ⟨j, rx y x g z, _, _, ex2, fun s hs => hj s (List.mem_cons_of_mem _ hs), hf, rfl⟩)⟩
                  · rintro ρ ⟨j, g, v6, v7, ex, hj, hf, rfl⟩
                    cases j with
                    | cons z j => cases ex
                    | nil => exact hN _ ⟨k, g, _, _, _, ex2, fun s hs => hk s (List.mem_cons_of_mem _ hs), hf, rfl⟩
              · rintro ρ ⟨k, g, v4, v6, v7, ex, hk, hf, rfl⟩
                cases k with
                | cons z k => cases ex
                | nil => exact hN _ ⟨l, g, _, _, _, _, ex2, fun s hs => hl s (List.mem_cons_of_mem _ hs), hf, rfl⟩
          · rintro ρ ⟨l, g, v4, v5, v6, v7, ex, hl, hf, rfl⟩
            cases l with
            | cons z l => cases ex
            | nil =>
              have hf : g = clo ws ts := hf
              subst hf
              clear hl ex
              and_intros
              refine forD_go (fun xs ρ => ∃ (l : List Str) (v4 v5 v6 v7 : Option (Nat × D)), xs = l.map .str ∧ (∀ w ∈ l, w ∈ ws) ∧ neg l (clo ws ts) = neg ws (clo ws ts) ∧ ρ = [some (0, .lst (ts.map tsD)), some (0, .lst (nm.map .str)), some (0, .lst (ws.map .str)), some (0, smD ws (clo ws ts)), v4, v5, v6, v7]) ?_ ?_ _ _ ⟨ws, _, _, _, _, rfl, fun _ h => h, rfl, rfl⟩
              · rintro x r ρ ⟨l, v4, v5, v6, v7, ex, hl, hf, rfl⟩ N hN
                cases l with
                | nil => cases ex
                | cons x l =>
                  rw [List.map_cons] at ex
                  injection ex with ex1 ex2
                  subst ex1
                  have hx := hl x List.mem_cons_self
                  refine ⟨_, rfl, ?_⟩
                  and_intros
                  refine ⟨by decide, smget_go hx hx ?_⟩
                  and_intros
                  by_cases c : clo ws ts x x < 0
                  · rw [decide_eq_true c]
                    and_intros
                    rw [← hf, if_pos (by unfold neg; rw [List.any_cons, decide_eq_true c]; rfl)] at hR
                    exact hR
                  · rw [decide_eq_false c]
                    and_intros
                    refine hN _ ⟨l, _, _, _, _, ex2, fun s hs => hl s (List.mem_cons_of_mem _ hs), ?_, rfl⟩
                    rw [← hf]
                    show _ = (decide (clo ws ts x x < 0) || neg l (clo ws ts))
                    rw [decide_eq_false c]; rfl
              · rintro ρ ⟨l, v4, v5, v6, v7, ex, hl, hf, rfl⟩
                cases l with
                | cons z l => cases ex
                | nil =>
                  and_intros
                  rw [← hf, if_neg (show ¬ neg [] (clo ws ts) = true from Bool.false_ne_true)] at hR
                  exact hR
abbrev s_ring_of : Stmt := topS 17
theorem sc_ring_of : FnScope ["pool", "numbers", "ring", "index"] ["pool"] (defScope s_ring_of) := ⟨rfl, rfl, rfl, by decide +kernel, rfl, by decide +kernel, by decide +kernel⟩
theorem ok_ring_of {f : Addr} {fd : FuncData} (F : Fun K "ring_of" "ring_of" s_ring_of f fd) (T : Bi mg) (c_edges_of : Cal P w K mg base "edges_of" 1 ["pool", "numbers"] (.own 0) [] w_edges_of) (c_numbered : Cal P w K mg base "numbered" 1 ["pool"] (.own 0) [] w_numbered) (c_short_ring : Cal P w K mg base "short_ring" 4 ["count", "edges"] (.own 1) [] w_short_ring) : FnOk P w K mg base CX0 5 f fd ["pool"] (spD K (.own 1) w_ring_of) := by
  refine Fun_okD F sc_ring_of (fun _ _ _ h => by obtain ⟨_, e, _, _, _⟩ := h; rw [e]; rfl) fun B cdv A outer s H E hr => ⟨_, (ds_cons (ds_setM 1 0 sc_ring_of.nd rfl (by first | exact Or.inl rfl | exact Or.inr rfl) (by decide) (dm_of (de_C c_numbered hr (da_cons (m := .own 0) (de_v 0) da_nil))))
(ds_cons (ds_setM 2 0 sc_ring_of.nd rfl (by first | exact Or.inl rfl | exact Or.inr rfl) (by decide) (dm_of (de_frz (de_C c_short_ring hr (da_cons (m := .own 0) (de_len (m := .own 0) T.len_ (de_v 1)) (da_cons (m := .own 0) (de_C c_edges_of hr (da_cons (m := .own 0) (de_v 0) (da_cons (m := .own 0) (de_v 1) da_nil))) da_nil))))))
(ds_cons (ds_if (dt_is (de_v 2) (de_non (m := .rd)))
(ds_one (ds_retM (dm_of (de_non (m := .own 1)))))
ds_nil)
(ds_one (ds_retM (dm_of (de_lc (own := [("index", 3)]) 0 rfl sc_ring_of.nd (di_list (de_v 2)) (blk_of ["pool", "numbers", "ring", "index"] (defScope s_ring_of) rfl (by decide +kernel) (by decide +kernel) (by decide +kernel) (by decide +kernel)) (dgc_name 3 sc_ring_of.nd rfl) (hol_cons rfl (fun _ _ => rfl) hol_nil) (fun _ _ _ _ _ => dts_nil) (fun _ _ _ _ _ => (de_at (de_v 0) (de_v 3)))))))))), fun ds R ⟨ps, e, ok, hN, hR⟩ => ?_⟩
  subst e
  and_intros
  have hnl := ok.num
  have hpl := ok.len
  refine ⟨ps, rfl, by omega, ?_⟩
  and_intros
  rw [gLen_sT, List.length_zipIdx]
  refine ⟨ps, nums ps, rfl, by omega, fun t ht => in_nums ht, ?_⟩
  refine ⟨poolE ps, _, _, rfl, .inl rfl, ⟨poolE_wf ps, by omega, by unfold poolE; rw [List.length_map]; omega⟩, fun h => ?_, fun s is h => ?_⟩
  · and_intros
    exact hN fun k c => h k (cns_cn c)
  · and_intros
    obtain ⟨h1, h2, h3⟩ := least_ring h
    have h4 := few_le h2
    rw [List.length_map] at h4
    refine compD_all (fun i => tsD (tst ps i)) (fun i hi => ⟨_, rfl, fun N hN => ?_⟩) (by rw [szL]; omega) ?_
    · and_intros
      exact gIx_nat (ts_get (h3 i hi)) hN
    · have := hR _ h1 h2 (by rw [List.length_map]; omega)
      rw [List.map_map] at this
      exact this
abbrev s_ring_stands : Stmt := topS 18
theorem sc_ring_stands : FnScope ["pool", "ring", "test", "tails", "total", "at"] ["pool", "ring"] (defScope s_ring_stands) := ⟨rfl, rfl, rfl, by decide +kernel, rfl, by decide +kernel, by decide +kernel⟩
theorem ok_ring_stands {f : Addr} {fd : FuncData} (F : Fun K "ring_stands" "ring_stands" s_ring_stands f fd) (T : Bi mg)  : FnOk P w K mg base CX0 1 f fd ["pool", "ring"] (spD K (.own 0) w_ring_stands) := by
  refine Fun_okD F sc_ring_stands (fun _ _ _ h => by obtain ⟨_, _, e, _, _, _, _⟩ := h; rw [e]; rfl) fun B cdv A outer s H E hr => ⟨_, (ds_cons (ds_for PassesOwn.never rfl (di_seqU (de_v 1)) (dg_name 2 sc_ring_stands.nd rfl (by first | exact Or.inl rfl | exact Or.inr rfl) (by decide))
(ds_one (ds_if (dt_notinD (hr.u 65) (de_v 2) (de_v 0))
(ds_one (ds_retM (dm_of (de_bl (m := .own 0)))))
ds_nil)))
(ds_cons (ds_setM 3 1 sc_ring_stands.nd rfl (by first | exact Or.inl rfl | exact Or.inr rfl) (by decide) (dm_of (de_dnewK 0)))
(ds_cons (ds_setM 4 0 sc_ring_stands.nd rfl (by first | exact Or.inl rfl | exact Or.inr rfl) (by decide) (dm_of (de_int (m := .own 0))))
(ds_cons (ds_for PassesOwn.never rfl (di_range T.range_ (de_len (m := .rd) T.len_ (de_v 1))) (dg_name 5 sc_ring_stands.nd rfl (by first | exact Or.inl rfl | exact Or.inr rfl) (by decide))
(ds_cons (ds_setM 2 0 sc_ring_stands.nd rfl (by first | exact Or.inl rfl | exact Or.inr rfl) (by decide) (dm_of (de_at (de_v 1) (de_v 5))))
(ds_cons (ds_if (dt_bool (dw_or (dt_ne (de_at (de_v 2) (de_int (m := .rd))) (de_at (de_at (de_v 1) (de_sub (m := .rd) (de_v 5) (de_int (m := .rd)))) (de_int (m := .rd)))) (dw_or1 (dt_din (hr.u 1) (de_at (de_v 2) (de_int (m := .rd))) (de_var 3 1)))))
(ds_one (ds_retM (dm_of (de_bl (m := .own 0)))))
ds_nil)
(ds_cons (ds_putK 3 (hr.u 1) (dm_of (de_bl (m := .own 0))) (de_at (de_v 2) (de_int (m := .rd))))
(ds_one (ds_setM 4 0 sc_ring_stands.nd rfl (by first | exact Or.inl rfl | exact Or.inr rfl) (by decide) (dm_of (de_add (m := .own 0) (de_v 4) (de_at (de_v 2) (de_int (m := .rd)))))))))))
(ds_one (ds_retM (dm_of (de_lt (m := .own 0) (de_v 4) (de_int (m := .rd)))))))))), fun ds R ⟨ps, r, e, ok, hl, hr, hR⟩ => ?_⟩
  subst e
  and_intros
  refine seqOf_go (.inl rfl) ?_
  refine forD_map (fun l ρ => ∃ (a : Option (Nat × D)), allIn ps l = allIn ps r ∧ (∀ t ∈ l, TOk t) ∧ ρ = [some (0, .lst (ps.map tsD)), some (0, .lst (r.map tsD)), a, none, none, none]) ⟨none, rfl, hr, rfl⟩ ?_ ?_
  · rintro t l ρ ⟨a, h1, h2, rfl⟩ N hN
    refine ⟨_, rfl, ?_⟩
    and_intros
    unfold allIn at h1
    rw [List.all_cons] at h1
    refine gInD_by tsD_inj pn_ts (ok_ts (h2 t List.mem_cons_self)) (fun u hu => ok_ts (ok.ok u hu)) (fun c => ?_) fun c => ?_
    · rw [decide_eq_true c] at h1
      and_intros
      exact hN _ ⟨_, by unfold allIn; rw [← h1, Bool.true_and], fun u hu => h2 u (List.mem_cons_of_mem _ hu), rfl⟩
    · rw [decide_eq_false c] at h1
      and_intros
      unfold judge allIn at hR
      rw [← h1] at hR
      exact hR
  rintro ρ ⟨a, h1, _, rfl⟩
  and_intros
  have hA : allIn ps r = true := h1.symm
  unfold judge at hR
  rw [hA] at hR
  rw [List.length_map]
  refine rng_go (by omega) ?_
  refine forD_rng (fun k ρ => ∃ (dn rs : List Tst) (l : List (Str × Bool)) (a b : Option (Nat × D)), dn ++ rs = r ∧ dn.length = k ∧ chk (ahead r dn) (dn.map (·.2.1)) rs = chk (lastO r) [] r ∧ l.map (·.1) = dn.map (·.2.1) ∧ ρ = [some (0, .lst (ps.map tsD)), some (0, .lst (r.map tsD)), a, some (1, sT .bl l), some (0, .int (sumT dn)), b]) ⟨[], r, [], _, none, rfl, rfl, rfl, rfl, rfl⟩ ?_ ?_
  · rintro k ρ _ hk ⟨dn, rs, l, a, b, hd, hlk, hc, hkl, rfl⟩ N hN
    rw [Nat.zero_add] at hk
    cases rs with
    | nil =>
      have := congrArg List.length hd
      rw [List.append_nil] at this
      omega
    | cons t rs =>
      subst hlk
      refine ⟨_, rfl, ?_⟩
      and_intros
      subst hd
      refine at_ts ?_
      and_intros
      refine prev_ts fun u hu => ?_
      and_intros
      rw [hu]
      rw [chk_cons] at hc
      by_cases c1 : t.2.1 = ahead (dn ++ t :: rs) dn
      · rw [decide_eq_true c1] at hc ⊢
        and_intros
        refine sin_go ?_
        rw [gA_some_iff, hkl]
        by_cases c2 : t.2.1 ∈ dn.map (·.2.1)
        · rw [decide_eq_true c2] at hc ⊢
          and_intros
          rw [← hc] at hR
          exact hR
        · rw [decide_eq_false c2] at hc ⊢
          and_intros
          have hlen := congrArg List.length hkl
          rw [List.length_map, List.length_map] at hlen
          refine ⟨⟨rfl, trivial⟩, _, rfl, own_sT (l := l) (f := D.bl) rfl ⟨by rw [List.length_append] at hl; rw [List.length_map, szL]; omega, ?_⟩⟩
          rw [put_sT (f := D.bl) (v := true)]
          refine (hN _ ⟨dn ++ [t], rs, _, _, _, by simp, by simp, ?_, ?_, by rw [sumT_append, sumT_cons, sumT_nil, Int.add_zero]; rfl⟩)
          · rw [ahead_snoc, List.map_append, ← hc]
            simp
          · rw [iA_new (by rw [hkl]; exact c2), List.map_append, List.map_append, hkl]; rfl
      · rw [decide_eq_false c1] at hc ⊢
        and_intros
        rw [← hc] at hR
        exact hR
  · rintro ρ ⟨dn, rs, l, a, b, hd, hlk, hc, hkl, rfl⟩
    and_intros
    have hlen := congrArg List.length hd
    rw [List.length_append] at hlen
    have hrs : rs = [] := List.length_eq_zero_iff.mp (by omega)
    subst hrs
    rw [List.append_nil] at hd
    subst hd
    rw [← hc] at hR
    exact hR
abbrev s_lacking_of : Stmt := topS 11
theorem sc_lacking_of : FnScope ["alternative", "found", "condition"] ["alternative"] (defScope s_lacking_of) := ⟨rfl, rfl, rfl, by decide +kernel, rfl, by decide +kernel, by decide +kernel⟩
theorem ok_lacking_of {f : Addr} {fd : FuncData} (F : Fun K "lacking_of" "lacking_of" s_lacking_of f fd) (T : Bi mg)  : FnOk P w K mg base CX0 1 f fd ["alternative"] (spD K (.own 0) w_lacking_of) := by
  refine Fun_okD F sc_lacking_of (fun _ _ _ h => by obtain ⟨_, _, e, _, _, _⟩ := h; rw [e]; rfl) fun B cdv A outer s H E hr => ⟨_, (ds_cons (ds_setM 1 1 sc_lacking_of.nd rfl (by first | exact Or.inl rfl | exact Or.inr rfl) (by decide) (dm_of (de_dnewK 0)))
(ds_cons (ds_for PassesOwn.never rfl (di_seqU (de_v 0)) (dg_name 2 sc_lacking_of.nd rfl (by first | exact Or.inl rfl | exact Or.inr rfl) (by decide))
(ds_one (ds_if (dt_eq (de_at (de_v 2) (de_int (m := .rd))) (de_str (m := .rd)))
(ds_one (ds_putK 1 (hr.u 1) (dm_of (de_bl (m := .own 0))) (de_at (de_v 2) (de_int (m := .rd)))))
ds_nil)))
(ds_one (ds_frz 1 (ds_retM (dm_of (de_frz (de_sortedK rfl T.sorted_ (de_v 1))))))))), fun ds R ⟨cs, cd, e, hs, ok, hR⟩ => ?_⟩
  subst e
  and_intros
  refine seqOf_go hs ?_
  refine forD_map (fun l ρ => ∃ (ks : List (Str × Bool)) (a : Option (Nat × D)), (∀ x, x ∈ ks.map (·.1) ∨ x ∈ lacked l ↔ x ∈ lacked cs) ∧ ks.length + l.length ≤ 10 ∧ ρ = [some (0, cd), some (1, sT .bl ks), a]) ⟨[], none, fun x => ⟨fun z => z.elim (fun z => nomatch z) id, .inr⟩, by have := ok.len; rw [List.length_nil]; omega, rfl⟩ ?_ ?_
  · rintro c l ρ ⟨ks, a, hx, hl, rfl⟩ N hN
    rw [List.length_cons] at hl
    refine ⟨_, rfl, ?_⟩
    cases c with
    | most t =>
      and_intros
      exact hN _ ⟨ks, _, hx, by omega, rfl⟩
    | lacks n =>
      and_intros
      refine ⟨⟨rfl, trivial⟩, _, rfl, sput_go (f := D.bl) (v := true) rfl (by rw [szL]; omega) (hN _ ⟨_, _, fun x => ?_, ?_, rfl⟩)⟩
      · rw [iA_keys, ← hx x]
        show _ ↔ _ ∨ x ∈ n :: lacked l
        rw [List.mem_cons]
        constructor
        · rintro ((h | h) | h)
          · exact .inl h
          · exact .inr (.inl h)
          · exact .inr (.inr h)
        · rintro (h | h | h)
          · exact .inl (.inl h)
          · exact .inl (.inr h)
          · exact .inr h
      · have := iA_len (l := ks) (k := n) (v := true)
        omega
  · rintro ρ ⟨ks, a, hx, hl, rfl⟩
    and_intros
    refine gSortK_sT (by rw [List.length_nil] at hl; omega) (hR _ fun x => ?_)
    rw [(List.mergeSort_perm _ _).mem_iff, ← hx x]
    exact ⟨.inl, fun z => z.elim id fun z => nomatch z⟩
abbrev s_tested_lacking : Stmt := topS 19
theorem sc_tested_lacking : FnScope ["conditions", "names", "condition"] ["conditions"] (defScope s_tested_lacking) := ⟨rfl, rfl, rfl, by decide +kernel, rfl, by decide +kernel, by decide +kernel⟩
theorem ok_tested_lacking {f : Addr} {fd : FuncData} (F : Fun K "tested_lacking" "tested_lacking" s_tested_lacking f fd) (T : Bi mg) (c_names_of : Cal P w K mg base "names_of" 2 ["alternative"] (.own 0) [] w_names_of) : FnOk P w K mg base CX0 3 f fd ["conditions"] (spD K (.own 1) w_tested_lacking) := by
  refine Fun_okD F sc_tested_lacking (fun _ _ _ h => by obtain ⟨_, e, _, _⟩ := h; rw [e]; rfl) fun B cdv A outer s H E hr => ⟨_, (ds_cons (ds_setM 1 0 sc_tested_lacking.nd rfl (by first | exact Or.inl rfl | exact Or.inr rfl) (by decide) (dm_of (de_C c_names_of hr (da_cons (m := .own 0) (de_v 0) da_nil))))
(ds_cons (ds_for PassesOwn.never rfl (di_list (de_v 0)) (dg_name 2 sc_tested_lacking.nd rfl (by first | exact Or.inl rfl | exact Or.inr rfl) (by decide))
(ds_one (ds_if (dt_bool (dw_and (dt_eq (de_at (de_v 2) (de_int (m := .rd))) (de_str (m := .rd))) (dw_and1 (dt_in (de_at (de_v 2) (de_int (m := .rd))) (de_v 1)))))
(ds_one (ds_retM (dm_of (de_atm 1 (de_at (de_v 2) (de_int (m := .rd)))))))
ds_nil)))
(ds_one (ds_retM (dm_of (de_non (m := .own 1))))))), fun ds R ⟨cs, e, ok, hR⟩ => ?_⟩
  subst e
  and_intros
  refine ⟨cs, _, rfl, .inl rfl, ok, ?_⟩
  and_intros
  refine forD_map (fun l ρ => ∃ (a : Option (Nat × D)), (lacked l).find? (fun n => decide (n ∈ names cs)) = fbad cs ∧ ρ = [some (0, .lst (cs.map cnD)), some (0, .lst ((names cs).map .str)), a]) ⟨none, rfl, rfl⟩ ?_ ?_
  · rintro c l ρ ⟨a, hb, rfl⟩ N hN2
    refine ⟨_, rfl, ?_⟩
    cases c with
    | most t =>
      and_intros
      exact hN2 _ ⟨_, hb, rfl⟩
    | lacks n =>
      and_intros
      refine gIn_strs ?_
      and_intros
      have e1 : (n :: lacked l).find? (fun n => decide (n ∈ names cs)) = fbad cs := hb
      rw [List.find?_cons] at e1
      by_cases q : n ∈ names cs
      · rw [decide_eq_true q] at e1 ⊢
        and_intros
        unfold fbD at hR
        rw [← e1] at hR
        exact ⟨rfl, hR⟩
      · rw [decide_eq_false q] at e1 ⊢
        and_intros
        exact hN2 _ ⟨_, e1, rfl⟩
  · rintro ρ ⟨a, hb, rfl⟩
    and_intros
    unfold fbD at hR
    rw [← hb] at hR
    exact hR
abbrev s_clash_of : Stmt := topS 20
theorem sc_clash_of : FnScope ["conditions", "name", "ring"] ["conditions"] (defScope s_clash_of) := ⟨rfl, rfl, rfl, by decide +kernel, rfl, by decide +kernel, by decide +kernel⟩
theorem ok_clash_of {f : Addr} {fd : FuncData} (F : Fun K "clash_of" "clash_of" s_clash_of f fd) (T : Bi mg) (c_names_of : Cal P w K mg base "names_of" 2 ["alternative"] (.own 0) [] w_names_of) (c_pool_of : Cal P w K mg base "pool_of" 2 ["conditions", "known"] (.own 0) [] w_pool_of) (c_ring_of : Cal P w K mg base "ring_of" 5 ["pool"] (.own 1) [] w_ring_of) (c_tested_lacking : Cal P w K mg base "tested_lacking" 3 ["conditions"] (.own 1) [] w_tested_lacking) : FnOk P w K mg base CX0 6 f fd ["conditions"] (spD K (.own 2) w_clash_of) := by
  refine Fun_okD F sc_clash_of (fun _ _ _ h => by obtain ⟨_, e, _, _⟩ := h; rw [e]; rfl) fun B cdv A outer s H E hr => ⟨_, (ds_cons (ds_setM 1 1 sc_clash_of.nd rfl (by first | exact Or.inl rfl | exact Or.inr rfl) (by decide) (dm_of (de_C c_tested_lacking hr (da_cons (m := .own 0) (de_v 0) da_nil))))
(ds_cons (ds_if (dt_isnot (de_var 1 1) (de_non (m := .rd)))
(ds_one (ds_retM (dm_tupCT 1 1)))
ds_nil)
(ds_cons (ds_setM 2 1 sc_clash_of.nd rfl (by first | exact Or.inl rfl | exact Or.inr rfl) (by decide) (dm_of (de_C c_ring_of hr (da_cons (m := .own 0) (de_C c_pool_of hr (da_cons (m := .own 0) (de_v 0) (da_cons (m := .own 0) (de_C c_names_of hr (da_cons (m := .own 0) (de_v 0) da_nil)) da_nil))) da_nil))))
(ds_cons (ds_if (dt_is (de_var 2 1) (de_non (m := .rd)))
(ds_one (ds_retM (dm_of (de_non (m := .own 2)))))
ds_nil)
(ds_one (ds_retM (dm_tupCT 2 1))))))), fun ds R ⟨cs, e, ok, hR⟩ => ?_⟩
  subst e
  and_intros
  refine ⟨cs, rfl, ok, ?_⟩
  have hnl := names_len (cs := cs)
  have hcl := ok.len
  unfold fbD
  cases q : fbad cs with
  | some n =>
    and_intros
    exact hR _ (.lack n q)
  | none =>
    and_intros
    refine ⟨cs, _, rfl, .inl rfl, ok, cs, _, names cs, rfl, .inl rfl, by omega, by omega, ?_⟩
    refine ⟨poolC cs, rfl, psC ok, fun h => ?_, fun r h1 h2 h3 => ?_⟩
    · and_intros
      exact hR _ (.none q h)
    · and_intros
      exact hR _ (.ring r q h1 h2 h3)
abbrev s_shows_clash : Stmt := topS 21
theorem sc_shows_clash : FnScope ["conditions", "clash", "names"] ["conditions", "clash"] (defScope s_shows_clash) := ⟨rfl, rfl, rfl, by decide +kernel, rfl, by decide +kernel, by decide +kernel⟩
theorem ok_shows_clash {f : Addr} {fd : FuncData} (F : Fun K "shows_clash" "shows_clash" s_shows_clash f fd) (T : Bi mg) (c_lacking_of : Cal P w K mg base "lacking_of" 1 ["alternative"] (.own 0) [] w_lacking_of) (c_names_of : Cal P w K mg base "names_of" 2 ["alternative"] (.own 0) [] w_names_of) (c_pool_of : Cal P w K mg base "pool_of" 2 ["conditions", "known"] (.own 0) [] w_pool_of) (c_ring_stands : Cal P w K mg base "ring_stands" 1 ["pool", "ring"] (.own 0) [] w_ring_stands) : FnOk P w K mg base CX0 3 f fd ["conditions", "clash"] (spD K (.own 0) w_shows_clash) := by
  refine Fun_okD F sc_shows_clash (fun _ _ _ h => by obtain ⟨_, _, _, e, _, _, _, _⟩ := h; rw [e]; rfl) fun B cdv A outer s H E hr => ⟨_, (ds_cons (ds_if (dt_bool (dw_or (dt_not (dt_val (de_isiK (m := .rd) K (by rfl) T.isinstance_ (de_v 1) (de_ty (m := .rd) (T := "tuple") (by rfl) T.tuple_ (by decide +kernel))))) (dw_or1 (dt_ne (de_len (m := .rd) T.len_ (de_v 1)) (de_int (m := .rd))))))
(ds_one (ds_retM (dm_of (de_bl (m := .own 0)))))
ds_nil)
(ds_cons (ds_setM 2 0 sc_shows_clash.nd rfl (by first | exact Or.inl rfl | exact Or.inr rfl) (by decide) (dm_of (de_C c_names_of hr (da_cons (m := .own 0) (de_v 0) da_nil))))
(ds_cons (ds_if (dt_eq (de_at (de_v 1) (de_int (m := .rd))) (de_str (m := .rd)))
(ds_one (ds_retM (dm_of (de_and (m := .own 0) (de_inD (m := .rd) (hr.u 65) (de_at (de_v 1) (de_int (m := .rd))) (de_v 2)) (de_one (de_inD (m := .own 0) (hr.u 65) (de_at (de_v 1) (de_int (m := .rd))) (de_C c_lacking_of hr (da_cons (m := .own 0) (de_v 0) da_nil))))))))
ds_nil)
(ds_cons (ds_if (dt_bool (dw_and (dt_eq (de_at (de_v 1) (de_int (m := .rd))) (de_str (m := .rd))) (dw_and1 (dt_val (de_isiK (m := .rd) K (by rfl) T.isinstance_ (de_at (de_v 1) (de_int (m := .rd))) (de_ty (m := .rd) (T := "list") (by rfl) T.list_ (by decide +kernel)))))))
(ds_one (ds_retM (dm_of (de_C c_ring_stands hr (da_cons (m := .own 0) (de_C c_pool_of hr (da_cons (m := .own 0) (de_v 0) (da_cons (m := .own 0) (de_v 2) da_nil))) (da_cons (m := .own 0) (de_at (de_v 1) (de_int (m := .rd))) da_nil))))))
ds_nil)
(ds_one (ds_retM (dm_of (de_bl (m := .own 0))))))))), fun ds R ⟨cs, cd, p, e, hs, ok, hp, hR⟩ => ?_⟩
  subst e
  have hnl := names_len (cs := cs)
  have hcl := ok.len
  cases p with
  | lack n =>
    and_intros
    refine ⟨cs, cd, rfl, hs, ok, gInD_strs hp (names_ok ok.ok) ?_⟩
    have hR : R (.bl (decide (n ∈ names cs) && decide (n ∈ lacked cs))) := hR
    by_cases c : n ∈ names cs
    · rw [decide_eq_true c] at hR ⊢
      and_intros
      refine ⟨cs, cd, rfl, hs, ok, fun ls hls => gInD_strs hp (fun y hy => ?_) ?_⟩
      · exact ok.ok _ (lacked_mem.mp ((hls y).mp hy))
      · and_intros
        have : decide (n ∈ ls) = decide (n ∈ lacked cs) := by simp only [hls]
        rw [this]
        rw [Bool.true_and] at hR
        exact hR
    · rw [decide_eq_false c] at hR ⊢
      and_intros
      exact hR
  | ring k r =>
    have hR : R (.bl (decide (k = "ring") && judge (poolC cs) r)) := hR
    rcases hp.1 with rfl | rfl
    · and_intros
      refine ⟨cs, cd, rfl, hs, ok, cs, cd, names cs, rfl, hs, by omega, by omega, ?_⟩
      refine ⟨poolC cs, r, rfl, psC ok, hp.2.1, hp.2.2, ?_⟩
      and_intros
      exact hR
    · and_intros
      refine ⟨cs, cd, rfl, hs, ok, ?_⟩
      exact hR
abbrev s_law_student : Stmt := topS 31
theorem sc_law_student : FnScope ["bag", "names", "top", "student", "name"] ["bag", "names", "top"] (defScope s_law_student) := ⟨rfl, rfl, rfl, by decide +kernel, rfl, by decide +kernel, by decide +kernel⟩
theorem ok_law_student {f : Addr} {fd : FuncData} (F : Fun K "_law_student" "_law_student" s_law_student f fd) (T : Bi mg) (c_law_draw : Cal P w K mg base "_law_draw" 1 ["bag", "size"] (.own 0) [] wDraw) : FnOk P w K mg base CX0 2 f fd ["bag", "names", "top"] (spD K (.own 0) w_law_student) := by
  refine Fun_okD F sc_law_student (fun _ _ _ h => by obtain ⟨_, _, _, _, e, _, _, _, _⟩ := h; rw [e]; rfl) fun B cdv A outer s H E hr => ⟨_, (ds_cons (ds_setM 3 1 sc_law_student.nd rfl (by first | exact Or.inl rfl | exact Or.inr rfl) (by decide) (dm_of (de_disp1 (de_str (m := .own 0)) (de_int (m := .own 0)))))
(ds_cons (ds_for PassesOwn.never rfl (di_list (de_v 1)) (dg_name 4 sc_law_student.nd rfl (by first | exact Or.inl rfl | exact Or.inr rfl) (by decide))
(ds_one (ds_putK 3 (hr.u 1) (dm_of (de_at (de_frz (de_lst 0 (da_cons (m := .own 0) (de_int (m := .own 0)) (da_cons (m := .own 0) (de_int (m := .own 0)) (da_cons (m := .own 0) (de_C c_law_draw hr (da_cons (m := .own 0) (de_v 0) (da_cons (m := .own 0) (de_add (m := .own 0) (de_v 2) (de_int (m := .rd))) da_nil))) (da_cons (m := .own 0) (de_C c_law_draw hr (da_cons (m := .own 0) (de_v 0) (da_cons (m := .own 0) (de_add (m := .own 0) (de_v 2) (de_int (m := .rd))) da_nil))) da_nil)))))) (de_C c_law_draw hr (da_cons (m := .own 0) (de_v 0) (da_cons (m := .own 0) (de_int (m := .own 0)) da_nil))))) (de_v 4))))
(ds_one (ds_frz 3 (ds_retM (dm_of (de_v 3))))))), fun ds R ⟨b, nm, top, hb, e, hn, hl, ht, hR⟩ => ?_⟩
  subst e
  and_intros
  refine ⟨_, rfl, ?_⟩
  refine forD_go (fun xs ρ => ∃ (ns : List Str) (st : List (Str × Int)) (a : Option (Nat × D)), xs = ns.map .str ∧ gA st "" = some 0 ∧ (∀ n ∈ ns, n ≠ "") ∧ (∀ n ∈ nm, n ∈ ns ∨ ∃ v, gA st n = some v ∧ 0 ≤ v ∧ v ≤ 9999) ∧ st.length + ns.length ≤ 10 ∧ ρ = [some (0, .raw (.ref b)), some (0, .lst (nm.map .str)), some (0, natD top), some (1, sT .int st), a]) ?_ ?_ _ _ ⟨nm, [("", 0)], none, rfl, rfl, hn, fun n hn => .inl hn, by rw [List.length_singleton]; omega, rfl⟩
  · rintro x r ρ ⟨ns, st, a, ex, h0, hne, hv, hl2, rfl⟩ N hN
    cases ns with
    | nil => cases ex
    | cons n ns =>
      rw [List.map_cons] at ex
      injection ex with ex1 ex2
      subst ex1
      rw [List.length_cons] at hl2
      refine ⟨_, rfl, ?_⟩
      and_intros
      refine drawN (top + 1) hb (by omega) (by omega) fun v1 hv1 => ?_
      and_intros
      refine drawN (top + 1) hb (by omega) (by omega) fun v2 hv2 => ?_
      refine ⟨by decide, drawN 4 hb (by decide) (by decide) fun i hi => ?_⟩
      obtain ⟨v, hv0, v0, v1⟩ : ∃ v : Int, [D.int 0, D.int 9999, natD v1, natD v2][i]? = some (.int v) ∧ 0 ≤ v ∧ v ≤ 9999 := by
        match i, hi with
        | 0, _ => exact ⟨_, rfl, by decide, by decide⟩
        | 1, _ => exact ⟨_, rfl, by decide, by decide⟩
        | 2, _ => exact ⟨_, rfl, by omega, by omega⟩
        | 3, _ => exact ⟨_, rfl, by omega, by omega⟩
      refine gIx_nat hv0 ?_
      refine ⟨⟨rfl, trivial⟩, _, rfl, sput_go (f := D.int) (v := v) rfl (by rw [szL]; omega) (hN _ ⟨ns, iA st n v, _, ex2, ?_, fun m hm => hne m (List.mem_cons_of_mem _ hm), fun m hm => ?_, ?_, rfl⟩)⟩
      · rw [gA_iA, if_neg fun z => hne n List.mem_cons_self z.symm]
        exact h0
      · rw [gA_iA]
        by_cases q : m = n
        · rw [if_pos q]
          exact .inr ⟨v, rfl, v0, by omega⟩
        · rw [if_neg q]
          rcases hv m hm with z | z
          · exact .inl ((List.mem_cons.mp z).resolve_left q)
          · exact .inr z
      · have := iA_len (l := st) (k := n) (v := v)
        omega
  · rintro ρ ⟨ns, st, a, ex, h0, hne, hv, hl2, rfl⟩
    cases ns with
    | cons k ks => cases ex
    | nil =>
      and_intros
      exact hR st ⟨h0, fun n hn => (hv n hn).resolve_left fun z => nomatch z⟩
abbrev s_law_between : Stmt := topS 32
theorem sc_law_between : FnScope ["student", "x", "y", "slack"] ["student", "x", "y", "slack"] (defScope s_law_between) := ⟨rfl, rfl, rfl, by decide +kernel, rfl, by decide +kernel, by decide +kernel⟩
theorem ok_law_between {f : Addr} {fd : FuncData} (F : Fun K "_law_between" "_law_between" s_law_between f fd) (T : Bi mg)  : FnOk P w K mg base CX0 1 f fd ["student", "x", "y", "slack"] (spD K (.own 0) w_law_between) := by
  refine Fun_okD F sc_law_between (fun _ _ _ h => by obtain ⟨_, _, _, _, _, e, _, _, _, _⟩ := h; rw [e]; rfl) fun B cdv A outer s H E hr => ⟨_, (ds_one (ds_retM (dm_of (de_tup (da_cons (m := .own 0) (de_str (m := .own 0)) (da_cons (m := .own 0) (de_v 1) (da_cons (m := .own 0) (de_v 2) (da_cons (m := .own 0) (de_max2 (m := .own 0) rfl T.max_ (de_sub (m := .rd) (de_int (m := .rd)) (de_int (m := .rd))) (de_min2 (m := .rd) rfl T.min_ (de_int (m := .rd)) (de_add (m := .rd) (de_sub (m := .rd) (de_dget (hr.u 1) (de_v 0) (de_v 1)) (de_dget (hr.u 1) (de_v 0) (de_v 2))) (de_v 3)))) da_nil)))))))), fun ds R ⟨nm, st, x, y, sl, e, ho, hx, hy, hR⟩ => ?_⟩
  subst e
  and_intros
  refine sget_go (ho.get hx).1 (sget_go (ho.get hy).1 ?_)
  and_intros
  exact ⟨by decide, hR _⟩
abbrev s_law_round : Stmt := topS 33
theorem sc_law_round : FnScope ["bag", "words", "student", "size", "shift", "order", "word", "slacks", "more", "at", "tests", "k"] ["bag", "words", "student"] (defScope s_law_round) := ⟨rfl, rfl, rfl, by decide +kernel, rfl, by decide +kernel, by decide +kernel⟩
theorem ok_law_round {f : Addr} {fd : FuncData} (F : Fun K "_law_round" "_law_round" s_law_round f fd) (T : Bi mg) (c_law_between : Cal P w K mg base "_law_between" 1 ["student", "x", "y", "slack"] (.own 0) [] w_law_between) (c_law_draw : Cal P w K mg base "_law_draw" 1 ["bag", "size"] (.own 0) [] wDraw) : FnOk P w K mg base CX0 2 f fd ["bag", "words", "student"] (spD K (.own 0) w_law_round) := by
  refine Fun_okD F sc_law_round (fun _ _ _ h => by obtain ⟨_, _, _, _, e, _, _, _, _⟩ := h; rw [e]; rfl) fun B cdv A outer s H E hr => ⟨_, (ds_cons (ds_setM 3 0 sc_law_round.nd rfl (by first | exact Or.inl rfl | exact Or.inr rfl) (by decide) (dm_of (de_add (m := .own 0) (de_int (m := .rd)) (de_C c_law_draw hr (da_cons (m := .own 0) (de_v 0) (da_cons (m := .own 0) (de_sub (m := .own 0) (de_len (m := .rd) T.len_ (de_v 1)) (de_int (m := .rd))) da_nil))))))
(ds_cons (ds_setM 4 0 sc_law_round.nd rfl (by first | exact Or.inl rfl | exact Or.inr rfl) (by decide) (dm_of (de_C c_law_draw hr (da_cons (m := .own 0) (de_v 0) (da_cons (m := .own 0) (de_len (m := .own 0) T.len_ (de_v 1)) da_nil)))))
(ds_cons (ds_setM 5 0 sc_law_round.nd rfl (by first | exact Or.inl rfl | exact Or.inr rfl) (by decide) (dm_of (de_frz (de_slL (de_frz (de_cat (de_v 1) (de_v 1))) (do_some (de_v 4)) (do_some (de_add (m := .rd) (de_v 4) (de_v 3)))))))
(ds_cons (ds_setLc (own := [("word", 6)]) 7 0 rfl sc_law_round.nd rfl rfl (by decide) (sw_true rfl rfl rfl rfl) (di_list (de_v 5)) (blk_of ["bag", "words", "student", "size", "shift", "order", "word", "slacks", "more", "at", "tests", "k"] (defScope s_law_round) rfl (by decide +kernel) (by decide +kernel) (by decide +kernel) (by decide +kernel)) (dgc_name 6 sc_law_round.nd rfl) (hol_cons rfl (fun _ _ => rfl) hol_nil) (fun _ _ _ _ _ => dts_nil) (fun _ _ _ _ _ => (de_int (m := .own 0))))
(ds_cons (ds_setM 8 0 sc_law_round.nd rfl (by first | exact Or.inl rfl | exact Or.inr rfl) (by decide) (dm_of (de_C c_law_draw hr (da_cons (m := .own 0) (de_v 0) (da_cons (m := .own 0) (de_int (m := .own 0)) da_nil)))))
(ds_cons (ds_setM 9 0 sc_law_round.nd rfl (by first | exact Or.inl rfl | exact Or.inr rfl) (by decide) (dm_of (de_C c_law_draw hr (da_cons (m := .own 0) (de_v 0) (da_cons (m := .own 0) (de_v 3) da_nil)))))
(ds_cons (ds_setL 7 0 (dm_of (de_add (m := .own 0) (de_at (de_var 7 1) (de_v 9)) (de_v 8))) (de_v 9))
(ds_cons (ds_setM 9 0 sc_law_round.nd rfl (by first | exact Or.inl rfl | exact Or.inr rfl) (by decide) (dm_of (de_C c_law_draw hr (da_cons (m := .own 0) (de_v 0) (da_cons (m := .own 0) (de_v 3) da_nil)))))
(ds_cons (ds_setL 7 0 (dm_of (de_sub (m := .own 0) (de_at (de_var 7 1) (de_v 9)) (de_v 8))) (de_v 9))
(ds_cons (ds_setM 9 0 sc_law_round.nd rfl (by first | exact Or.inl rfl | exact Or.inr rfl) (by decide) (dm_of (de_C c_law_draw hr (da_cons (m := .own 0) (de_v 0) (da_cons (m := .own 0) (de_v 3) da_nil)))))
(ds_cons (ds_setL 7 0 (dm_of (de_add (m := .own 0) (de_at (de_var 7 1) (de_v 9)) (de_at (de_frz (de_lst 0 (da_cons (m := .own 0) (de_sub (m := .own 0) (de_int (m := .rd)) (de_int (m := .rd))) (da_cons (m := .own 0) (de_sub (m := .own 0) (de_int (m := .rd)) (de_int (m := .rd))) (da_cons (m := .own 0) (de_sub (m := .own 0) (de_int (m := .rd)) (de_int (m := .rd))) (da_cons (m := .own 0) (de_int (m := .own 0)) da_nil)))))) (de_C c_law_draw hr (da_cons (m := .own 0) (de_v 0) (da_cons (m := .own 0) (de_int (m := .own 0)) da_nil)))))) (de_v 9))
(ds_cons (ds_frz 7 (ds_setM 10 1 sc_law_round.nd rfl (by first | exact Or.inl rfl | exact Or.inr rfl) (by decide) (dm_of (de_lst 0 da_nil))))
(ds_cons (ds_for PassesOwn.never rfl (di_range T.range_ (de_v 3)) (dg_name 11 sc_law_round.nd rfl (by first | exact Or.inl rfl | exact Or.inr rfl) (by decide))
(ds_one (ds_exprM (m := .own 0) (dm_append 10 0 (dm_of (de_C c_law_between hr (da_cons (m := .own 0) (de_v 2) (da_cons (m := .own 0) (de_at (de_v 5) (de_mod (m := .rd) (de_int' (m := .rd) T.int_ (de_add (m := .rd) (de_v 11) (de_int (m := .rd)))) (de_v 3))) (da_cons (m := .own 0) (de_at (de_v 5) (de_v 11)) (da_cons (m := .own 0) (de_at (de_v 7) (de_v 11)) da_nil))))))))))
(ds_one (ds_frz 10 (ds_retM (dm_of (de_v 10)))))))))))))))))), fun ds R ⟨b, nm, st, hb, e, hn, hl, ho, hR⟩ => ?_⟩
  subst e
  and_intros
  have hnp := List.length_pos_iff.mpr hn
  rw [List.length_map]
  rw [show ((nm.length + 1 : Nat) : Int) - 1 = ((nm.length : Nat) : Int) by omega]
  refine drawN nm.length hb hnp (by omega) fun d0 hd0 => ?_
  and_intros
  refine drawN (nm.length + 1) hb (by omega) (by omega) fun sh0 hsh => ?_
  refine gCat_go (f := D.str) (a := ("" : Str) :: nm) (b := ("" : Str) :: nm) (by rw [List.length_cons, szL]; omega) ?_
  and_intros
  rw [show (sh0 : Int) + (2 + (d0 : Int)) = ((sh0 + (2 + d0) : Nat) : Int) by omega, show (2 : Int) + (d0 : Int) = ((2 + d0 : Nat) : Int) by omega]
  have ho1 := cutA_mid (l := (("" : Str) :: nm) ++ (("" : Str) :: nm)) (p := sh0) (c := 2 + d0) (by rw [List.length_append, List.length_cons]; omega)
  have ho2 : ∀ x ∈ cutA ((("" : Str) :: nm) ++ (("" : Str) :: nm)) (some (sh0 : Int)) (some ((sh0 + (2 + d0) : Nat) : Int)), x ∈ ("" : Str) :: nm := fun x hx => (List.mem_append.mp (cutA_mem hx)).elim id id
  have hz1 : 2 ≤ 2 + d0 := by omega
  have hz2 : 2 + d0 ≤ 5 := by omega
  refine gSlL_go (f := D.str) (l := (("" : Str) :: nm) ++ (("" : Str) :: nm)) ?_
  generalize cutA ((("" : Str) :: nm) ++ (("" : Str) :: nm)) (some (sh0 : Int)) (some ((sh0 + (2 + d0) : Nat) : Int)) = os at *
  generalize 2 + d0 = sz at *
  and_intros
  refine compD_all (xs := os) (ι := .str) (fun _ => .int 0) (fun x hx => ⟨_, rfl, fun N hN => hN⟩) (by rw [szL]; omega) ?_
  rw [zeros, ho1]
  have hsl : (List.replicate sz (0 : Int)).length = sz := List.length_replicate
  generalize List.replicate sz (0 : Int) = sl at *
  refine drawN 4 hb (by decide) (by decide) fun more hmore => ?_
  refine drawN sz hb (by omega) (by omega) fun a1 ha1 => ?_
  refine gIx_nat (map_get (l := sl) (by omega)) ?_
  and_intros
  refine ⟨a1, ixN_nat (by rw [List.length_map]; omega), ?_⟩
  rw [← List.map_set]
  generalize hq : sl.set a1 (sl[a1] + (more : Int)) = sl2
  have hsl2 : sl2.length = sz := by rw [← hq, List.length_set]; exact hsl
  refine drawN sz hb (by omega) (by omega) fun a2 ha2 => ?_
  refine gIx_nat (map_get (l := sl2) (by omega)) ?_
  and_intros
  refine ⟨a2, ixN_nat (by rw [List.length_map]; omega), ?_⟩
  rw [← List.map_set]
  generalize hq2 : sl2.set a2 (sl2[a2] - (more : Int)) = sl3
  have hsl3 : sl3.length = sz := by rw [← hq2, List.length_set]; exact hsl2
  refine drawN sz hb (by omega) (by omega) fun a3 ha3 => ?_
  refine gIx_nat (map_get (l := sl3) (by omega)) ?_
  refine ⟨by decide, drawN 4 hb (by decide) (by decide) fun j hj => ?_⟩
  obtain ⟨dv, hdv⟩ : ∃ v : Int, [D.int (0 - 1), D.int (0 - 1), D.int (0 - 2), D.int 0][j]? = some (.int v) := by
    match j, hj with
    | 0, _ => exact ⟨_, rfl⟩
    | 1, _ => exact ⟨_, rfl⟩
    | 2, _ => exact ⟨_, rfl⟩
    | 3, _ => exact ⟨_, rfl⟩
  refine gIx_nat hdv ?_
  and_intros
  refine ⟨a3, ixN_nat (by rw [List.length_map]; omega), ?_⟩
  rw [← List.map_set]
  generalize hq3 : sl3.set a3 (sl3[a3] + dv) = sl4
  have hsl4 : sl4.length = sz := by rw [← hq3, List.length_set]; exact hsl3
  refine ⟨by decide, rng_go (by omega) ?_⟩
  refine forD_rng (fun k ρ => ∃ (ts : List Tst) (a : Option (Nat × D)), ts.length = k ∧ (∀ t ∈ ts, t.1 ∈ ("" : Str) :: nm ∧ t.2.1 ∈ ("" : Str) :: nm) ∧ ρ = [some (0, .raw (.ref b)), some (0, .lst ((("" : Str) :: nm).map .str)), some (0, sT .int st), some (0, .int sz), some (0, natD sh0), some (0, .lst (os.map .str)), none, some (0, .lst (sl4.map .int)), some (0, natD more), some (0, natD a3), some (1, .lst (ts.map tsD)), a]) ⟨[], none, rfl, fun t h => (nomatch h), rfl⟩ ?_ ?_
  · rintro k ρ _ hk ⟨ts, a, hl2, ht, rfl⟩ N hN
    rw [Nat.zero_add] at hk
    refine ⟨_, rfl, ?_⟩
    and_intros
    have h1 : (k + 1) % sz < os.length := by rw [ho1]; exact Nat.mod_lt _ (by omega)
    have h2 : k < os.length := by omega
    refine ⟨by omega, ?_⟩
    rw [show ((k : Int) + 1) % (sz : Int) = (((k + 1) % sz : Nat) : Int) from rfl]
    refine gIx_nat (map_get (f := D.str) (l := os) h1) (gIx_nat (map_get (f := D.str) (l := os) h2) (gIx_nat (map_get (f := D.int) (l := sl4) (by omega)) ?_))
    refine ⟨nm, st, _, _, _, rfl, ho, ho2 _ (List.getElem_mem _), ho2 _ (List.getElem_mem _), fun c => ?_⟩
    and_intros
    refine ⟨by rw [List.length_map, szL]; omega, hN _ ⟨ts ++ [(_, _, c)], _, by rw [List.length_append, List.length_singleton, hl2], fun t h => ?_, by rw [List.map_append]; rfl⟩⟩
    rcases List.mem_append.mp h with z | z
    · exact ht t z
    · rw [List.mem_singleton.mp z]; exact ⟨ho2 _ (List.getElem_mem _), ho2 _ (List.getElem_mem _)⟩
  · rintro ρ ⟨ts, a, hl2, ht, rfl⟩
    and_intros
    exact hR ts (by omega) ht
abbrev s_law_no_bound : Stmt := topS 34
theorem sc_law_no_bound : FnScope ["test"] ["test"] (defScope s_law_no_bound) := ⟨rfl, rfl, rfl, by decide +kernel, rfl, by decide +kernel, by decide +kernel⟩
theorem ok_law_no_bound {f : Addr} {fd : FuncData} (F : Fun K "_law_no_bound" "_law_no_bound" s_law_no_bound f fd) (T : Bi mg)  : FnOk P w K mg base CX0 1 f fd ["test"] (spD K (.own 0) w_law_no_bound) := by
  refine Fun_okD F sc_law_no_bound (fun _ _ _ h => by obtain ⟨_, e, _⟩ := h; rw [e]; rfl) fun B cdv A outer s H E hr => ⟨_, (ds_cons (ds_if (dt_bool (dw_and (dt_eq (de_at (de_v 0) (de_int (m := .rd))) (de_str (m := .rd))) (dw_and1 (dt_ge (de_at (de_v 0) (de_int (m := .rd))) (de_int (m := .rd))))))
(ds_one (ds_retM (dm_of (de_bl (m := .own 0)))))
ds_nil)
(ds_one (ds_retM (dm_of (de_not (m := .own 0) (de_and (m := .rd) (de_eq (m := .rd) (de_at (de_v 0) (de_int (m := .rd))) (de_str (m := .rd))) (de_one (de_ge (m := .rd) (de_at (de_v 0) (de_int (m := .rd))) (de_int (m := .rd)))))))))), fun ds R ⟨t, e, hR⟩ => ?_⟩
  subst e
  and_intros
  revert hR
  unfold noB
  cases decide (t.2.1 = "") <;> cases decide (9999 ≤ t.2.2) <;> cases decide (t.1 = "") <;> cases decide (0 ≤ t.2.2) <;> exact fun hR => hR
abbrev s_law_alternative : Stmt := topS 35
theorem sc_law_alternative : FnScope ["bag", "names", "top", "student", "conditions", "k", "tests", "test", "shift", "at"] ["bag", "names", "top", "student"] (defScope s_law_alternative) := ⟨rfl, rfl, rfl, by decide +kernel, rfl, by decide +kernel, by decide +kernel⟩
theorem ok_law_alternative {f : Addr} {fd : FuncData} (F : Fun K "_law_alternative" "_law_alternative" s_law_alternative f fd) (T : Bi mg) (c_law_condition : Cal P w K mg base "_law_condition" 2 ["bag", "attrs", "top"] (.own 0) [] w_law_condition) (c_law_draw : Cal P w K mg base "_law_draw" 1 ["bag", "size"] (.own 0) [] wDraw) (c_law_no_bound : Cal P w K mg base "_law_no_bound" 1 ["test"] (.own 0) [] w_law_no_bound) (c_law_round : Cal P w K mg base "_law_round" 2 ["bag", "words", "student"] (.own 0) [] w_law_round) : FnOk P w K mg base CX0 3 f fd ["bag", "names", "top", "student"] (spD K (.own 0) w_law_alternative) := by
  refine Fun_okD F sc_law_alternative (fun _ _ _ h => by obtain ⟨_, _, _, _, _, e, _, _, _, _, _⟩ := h; rw [e]; rfl) fun B cdv A outer s H E hr => ⟨_, (ds_cons (ds_setM 4 1 sc_law_alternative.nd rfl (by first | exact Or.inl rfl | exact Or.inr rfl) (by decide) (dm_of (de_lst 0 da_nil)))
(ds_cons (ds_if (dt_eq (de_C c_law_draw hr (da_cons (m := .own 0) (de_v 0) (da_cons (m := .own 0) (de_int (m := .own 0)) da_nil))) (de_int (m := .rd)))
(ds_cons (ds_for PassesOwn.never rfl (di_range T.range_ (de_C c_law_draw hr (da_cons (m := .own 0) (de_v 0) (da_cons (m := .own 0) (de_int (m := .own 0)) da_nil)))) (dg_name 5 sc_law_alternative.nd rfl (by first | exact Or.inl rfl | exact Or.inr rfl) (by decide))
(ds_one (ds_exprM (m := .own 0) (dm_append 4 0 (dm_of (de_C c_law_condition hr (da_cons (m := .own 0) (de_v 0) (da_cons (m := .own 0) (de_v 1) (da_cons (m := .own 0) (de_v 2) da_nil)))))))))
(ds_one (ds_frz 4 (ds_retM (dm_of (de_v 4))))))
ds_nil)
(ds_cons (ds_setM 6 0 sc_law_alternative.nd rfl (by first | exact Or.inl rfl | exact Or.inr rfl) (by decide) (dm_of (de_C c_law_round hr (da_cons (m := .own 0) (de_v 0) (da_cons (m := .own 0) (de_frz (de_cat (de_frz (de_lst 0 (da_cons (m := .own 0) (de_str (m := .own 0)) da_nil))) (de_v 1))) (da_cons (m := .own 0) (de_v 3) da_nil))))))
(ds_cons (ds_if (dt_eq (de_C c_law_draw hr (da_cons (m := .own 0) (de_v 0) (da_cons (m := .own 0) (de_int (m := .own 0)) da_nil))) (de_int (m := .rd)))
(ds_one (ds_setLc (own := [("test", 7)]) 6 0 rfl sc_law_alternative.nd rfl rfl (by decide) (sw_true rfl rfl rfl rfl) (di_list (de_v 6)) (blk_of ["bag", "names", "top", "student", "conditions", "k", "tests", "test", "shift", "at"] (defScope s_law_alternative) rfl (by decide +kernel) (by decide +kernel) (by decide +kernel) (by decide +kernel)) (dgc_name 7 sc_law_alternative.nd rfl) (hol_cons rfl (fun _ _ => rfl) hol_nil) (fun _ _ _ _ _ => dts_one (dt_val (de_C c_law_no_bound hr (da_cons (m := .own 0) (de_v 7) da_nil)))) (fun _ _ _ _ _ => (de_v 7))))
ds_nil)
(ds_cons (ds_frz 6 (ds_setM 8 0 sc_law_alternative.nd rfl (by first | exact Or.inl rfl | exact Or.inr rfl) (by decide) (dm_of (de_C c_law_draw hr (da_cons (m := .own 0) (de_v 0) (da_cons (m := .own 0) (de_int (m := .own 0)) da_nil))))))
(ds_cons (ds_setM 6 0 sc_law_alternative.nd rfl (by first | exact Or.inl rfl | exact Or.inr rfl) (by decide) (dm_of (de_frz (de_cat (de_frz (de_slL (de_v 6) (do_some (de_v 8)) do_none)) (de_frz (de_slL (de_v 6) do_none (do_some (de_v 8))))))))
(ds_cons (ds_if (dt_eq (de_C c_law_draw hr (da_cons (m := .own 0) (de_v 0) (da_cons (m := .own 0) (de_int (m := .own 0)) da_nil))) (de_int (m := .rd)))
(ds_cons (ds_setM 9 0 sc_law_alternative.nd rfl (by first | exact Or.inl rfl | exact Or.inr rfl) (by decide) (dm_of (de_C c_law_draw hr (da_cons (m := .own 0) (de_v 0) (da_cons (m := .own 0) (de_add (m := .own 0) (de_len (m := .rd) T.len_ (de_v 6)) (de_int (m := .rd))) da_nil)))))
(ds_one (ds_retM (dm_of (de_frz (de_cat (de_frz (de_cat (de_frz (de_slL (de_v 6) do_none (do_some (de_v 9)))) (de_frz (de_lst 0 (da_cons (m := .own 0) (de_C c_law_condition hr (da_cons (m := .own 0) (de_v 0) (da_cons (m := .own 0) (de_v 1) (da_cons (m := .own 0) (de_v 2) da_nil)))) da_nil))))) (de_frz (de_slL (de_v 6) (do_some (de_v 9)) do_none))))))))
ds_nil)
(ds_one (ds_retM (dm_of (de_v 6))))))))))), fun ds R ⟨b, nm, top, st, hb, e, hn, hl, ht, ho, hR⟩ => ?_⟩
  subst e
  and_intros
  refine ⟨by decide, drawN 3 hb (by decide) (by decide) fun k0 _ => ?_⟩
  and_intros
  by_cases z0 : (k0 : Int) = 0
  · rw [decide_eq_true z0]
    and_intros
    refine drawN 7 hb (by decide) (by decide) fun m hm => rng_go (by omega) ?_
    refine forD_rng (fun k ρ => ∃ (cs : List Cond) (a : Option (Nat × D)), cs.length = k ∧ (∀ c ∈ cs, CIn (("" : Str) :: nm) c) ∧ ρ = [some (0, .raw (.ref b)), some (0, .lst (nm.map .str)), some (0, natD top), some (0, sT .int st), some (1, .lst (cs.map cnD)), a, none, none, none, none]) ⟨[], none, rfl, fun t h => (nomatch h), rfl⟩ ?_ ?_
    · rintro k ρ _ hk ⟨cs, a, hcl, hc, rfl⟩ N hN
      refine ⟨_, rfl, ?_⟩
      and_intros
      refine ⟨b, nm, top, hb, rfl, hn, hl, ht, fun c hc2 => ?_⟩
      and_intros
      refine ⟨by rw [List.length_map, szL]; omega, hN _ ⟨cs ++ [c], _, by rw [List.length_append, List.length_singleton, hcl], fun d hd => ?_, by rw [List.map_append]; rfl⟩⟩
      rcases List.mem_append.mp hd with z | z
      · exact hc d z
      · rw [List.mem_singleton.mp z]; exact hc2
    · rintro ρ ⟨cs, a, hcl, hc, rfl⟩
      and_intros
      exact hR cs (by omega) hc
  rw [decide_eq_false z0]
  and_intros
  refine ⟨by decide, gCat_go (f := D.str) (a := [("" : Str)]) (b := nm) (by rw [List.length_singleton, szL]; omega) ?_⟩
  refine ⟨b, nm, st, hb, rfl, hn, hl, ho, fun ts htl htw => ?_⟩
  refine drawN 2 hb (by decide) (by decide) fun k1 _ => ?_
  and_intros
  by_cases z1 : (k1 : Int) = 0
  · rw [decide_eq_true z1]
    and_intros
    refine compD_fil (xs := ts) (ι := tsD) noB tsD (fun t _ => ⟨_, rfl, fun N hN => ?_, fun _ N hN => ?_⟩) (by rw [szL]; omega) ?_
    · and_intros
      exact ⟨t, rfl, hN⟩
    · and_intros
      exact hN
    have hul : (ts.filter noB).length ≤ 5 := by have := List.length_filter_le noB ts; omega
    have hus : ∀ t ∈ ts.filter noB, t.1 ∈ ("" : Str) :: nm ∧ t.2.1 ∈ ("" : Str) :: nm := fun t h => htw t (List.mem_filter.mp h).1
    generalize ts.filter noB = us at *

    refine drawN 5 hb (by decide) (by decide) fun sh hsh => ?_
    and_intros
    refine gSlL_drop (f := tsD) (l := us) (gSlL_take (f := tsD) (l := us) (gCat_go (f := tsD) (a := us.drop sh) (b := us.take sh) (by rw [List.length_drop, List.length_take, szL]; omega) ?_))
    have hvl : (us.drop sh ++ us.take sh).length ≤ 5 := by rw [List.length_append, List.length_drop, List.length_take]; omega
    have hvm : ∀ t ∈ us.drop sh ++ us.take sh, t.1 ∈ ("" : Str) :: nm ∧ t.2.1 ∈ ("" : Str) :: nm := fun t ht => (List.mem_append.mp ht).elim (fun z => hus t (List.mem_of_mem_drop z)) fun z => hus t (List.mem_of_mem_take z)
    generalize us.drop sh ++ us.take sh = vs at *
    have hcm : ∀ c ∈ vs.map Cond.most, CIn (("" : Str) :: nm) c := fun c hc => by
      obtain ⟨t, h, rfl⟩ := List.mem_map.mp hc
      exact hvm t h
    have hcl : (vs.map Cond.most).length ≤ 5 := by rw [List.length_map]; exact hvl
    rw [show vs.map tsD = (vs.map Cond.most).map cnD by rw [List.map_map]; rfl]
    generalize vs.map Cond.most = cs at *
    refine drawN 2 hb (by decide) (by decide) fun k2 _ => ?_
    and_intros
    by_cases z2 : (k2 : Int) = 0
    · rw [decide_eq_true z2]
      and_intros
      rw [List.length_map, show (cs.length : Int) + 1 = ((cs.length + 1 : Nat) : Int) from rfl]
      refine drawN (cs.length + 1) hb (by omega) (by omega) fun p hp => ?_
      and_intros
      refine gSlL_take (f := cnD) (l := cs) ?_
      refine ⟨b, nm, top, hb, rfl, hn, hl, ht, fun c hc => ⟨by decide, ?_⟩⟩
      refine gCat_go (f := cnD) (a := cs.take p) (b := [c]) (by rw [List.length_take, List.length_singleton, szL]; omega) ?_
      and_intros
      refine gSlL_drop (f := cnD) (l := cs) ?_
      refine gCat_go (f := cnD) (a := cs.take p ++ [c]) (b := cs.drop p) (by rw [List.length_append, List.length_take, List.length_singleton, List.length_drop, szL]; omega) ?_
      refine hR _ (by rw [List.length_append, List.length_append, List.length_take, List.length_singleton, List.length_drop]; omega) fun d hd => ?_
      rcases List.mem_append.mp hd with z | z
      · rcases List.mem_append.mp z with z | z
        · exact hcm d (List.mem_of_mem_take z)
        · rw [List.mem_singleton.mp z]; exact hc
      · exact hcm d (List.mem_of_mem_drop z)
    · rw [decide_eq_false z2]
      and_intros
      exact hR cs (by omega) hcm
  · rw [decide_eq_false z1]
    and_intros
    have hul := htl
    have hus := htw
    generalize ts = us at *

    refine drawN 5 hb (by decide) (by decide) fun sh hsh => ?_
    and_intros
    refine gSlL_drop (f := tsD) (l := us) (gSlL_take (f := tsD) (l := us) (gCat_go (f := tsD) (a := us.drop sh) (b := us.take sh) (by rw [List.length_drop, List.length_take, szL]; omega) ?_))
    have hvl : (us.drop sh ++ us.take sh).length ≤ 5 := by rw [List.length_append, List.length_drop, List.length_take]; omega
    have hvm : ∀ t ∈ us.drop sh ++ us.take sh, t.1 ∈ ("" : Str) :: nm ∧ t.2.1 ∈ ("" : Str) :: nm := fun t ht => (List.mem_append.mp ht).elim (fun z => hus t (List.mem_of_mem_drop z)) fun z => hus t (List.mem_of_mem_take z)
    generalize us.drop sh ++ us.take sh = vs at *
    have hcm : ∀ c ∈ vs.map Cond.most, CIn (("" : Str) :: nm) c := fun c hc => by
      obtain ⟨t, h, rfl⟩ := List.mem_map.mp hc
      exact hvm t h
    have hcl : (vs.map Cond.most).length ≤ 5 := by rw [List.length_map]; exact hvl
    rw [show vs.map tsD = (vs.map Cond.most).map cnD by rw [List.map_map]; rfl]
    generalize vs.map Cond.most = cs at *
    refine drawN 2 hb (by decide) (by decide) fun k2 _ => ?_
    and_intros
    by_cases z2 : (k2 : Int) = 0
    · rw [decide_eq_true z2]
      and_intros
      rw [List.length_map, show (cs.length : Int) + 1 = ((cs.length + 1 : Nat) : Int) from rfl]
      refine drawN (cs.length + 1) hb (by omega) (by omega) fun p hp => ?_
      and_intros
      refine gSlL_take (f := cnD) (l := cs) ?_
      refine ⟨b, nm, top, hb, rfl, hn, hl, ht, fun c hc => ⟨by decide, ?_⟩⟩
      refine gCat_go (f := cnD) (a := cs.take p) (b := [c]) (by rw [List.length_take, List.length_singleton, szL]; omega) ?_
      and_intros
      refine gSlL_drop (f := cnD) (l := cs) ?_
      refine gCat_go (f := cnD) (a := cs.take p ++ [c]) (b := cs.drop p) (by rw [List.length_append, List.length_take, List.length_singleton, List.length_drop, szL]; omega) ?_
      refine hR _ (by rw [List.length_append, List.length_append, List.length_take, List.length_singleton, List.length_drop]; omega) fun d hd => ?_
      rcases List.mem_append.mp hd with z | z
      · rcases List.mem_append.mp z with z | z
        · exact hcm d (List.mem_of_mem_take z)
        · rw [List.mem_singleton.mp z]; exact hc
      · exact hcm d (List.mem_of_mem_drop z)
    · rw [decide_eq_false z2]
      and_intros
      exact hR cs (by omega) hcm
abbrev s_law_pool : Stmt := topS 36
theorem sc_law_pool : FnScope ["conditions", "condition", "pool", "name"] ["conditions"] (defScope s_law_pool) := ⟨rfl, rfl, rfl, by decide +kernel, rfl, by decide +kernel, by decide +kernel⟩
theorem ok_law_pool {f : Addr} {fd : FuncData} (F : Fun K "_law_pool" "_law_pool" s_law_pool f fd) (T : Bi mg) (c_law_used : Cal P w K mg base "_law_used" 1 ["alternative"] (.own 0) [] w_law_used) : FnOk P w K mg base CX0 2 f fd ["conditions"] (spD K (.own 0) w_law_pool) := by
  refine Fun_okD F sc_law_pool (fun _ _ _ h => by obtain ⟨_, e, _, _⟩ := h; rw [e]; rfl) fun B cdv A outer s H E hr => ⟨_, (ds_cons (ds_setLc (own := [("condition", 1)]) 2 0 rfl sc_law_pool.nd rfl rfl (by decide) (sw_true rfl rfl rfl rfl) (di_list (de_v 0)) (blk_of ["conditions", "condition", "pool", "name"] (defScope s_law_pool) rfl (by decide +kernel) (by decide +kernel) (by decide +kernel) (by decide +kernel)) (dgc_name 1 sc_law_pool.nd rfl) (hol_cons rfl (fun _ _ => rfl) hol_nil) (fun _ _ _ _ _ => dts_one (dt_eq (de_at (de_v 1) (de_int (m := .rd))) (de_str (m := .rd)))) (fun _ _ _ _ _ => (de_v 1)))
(ds_cons (ds_for PassesOwn.never rfl (di_list (de_C c_law_used hr (da_cons (m := .own 0) (de_v 0) da_nil))) (dg_name 3 sc_law_pool.nd rfl (by first | exact Or.inl rfl | exact Or.inr rfl) (by decide))
(ds_cons (ds_exprM (m := .own 0) (dm_append 2 0 (dm_of (de_tup (da_cons (m := .own 0) (de_str (m := .own 0)) (da_cons (m := .own 0) (de_v 3) (da_cons (m := .own 0) (de_str (m := .own 0)) (da_cons (m := .own 0) (de_int (m := .own 0)) da_nil))))))))
(ds_one (ds_exprM (m := .own 0) (dm_append 2 0 (dm_of (de_tup (da_cons (m := .own 0) (de_str (m := .own 0)) (da_cons (m := .own 0) (de_str (m := .own 0)) (da_cons (m := .own 0) (de_v 3) (da_cons (m := .own 0) (de_int (m := .own 0)) da_nil)))))))))))
(ds_one (ds_frz 2 (ds_retM (dm_of (de_v 2))))))), fun ds R ⟨cs, e, ok, hR⟩ => ?_⟩
  subst e
  and_intros
  refine compD_map cnD (fun c => (test1 c).map tsD) (fun c hc N hN => ?_) (by have := ok.len; rw [szL]; omega) ?_
  · refine ⟨_, rfl, ?_⟩
    cases c with
    | lacks n =>
      and_intros
      exact hN
    | most t =>
      and_intros
      exact hN
  have e1 : cs.filterMap (fun c => (test1 c).map tsD) = (tests cs).map tsD := by unfold tests; rw [List.map_filterMap]
  rw [e1]
  refine ⟨cs, rfl, ok, ?_⟩
  and_intros
  have hnl := names_len (cs := cs)
  have hcl := ok.len
  have htl := tests_len cs
  refine forD_map (fun ns ρ => ∃ (ts : List Tst) (a : Option (Nat × D)), pool ts ns = poolC cs ∧ ts.length + 2 * ns.length ≤ 50 ∧ ρ = [some (0, .lst (cs.map cnD)), none, some (1, .lst (ts.map tsD)), a]) ⟨tests cs, none, rfl, by omega, rfl⟩ ?_ ?_
  · rintro n ns ρ ⟨ts, a, hf, hl2, rfl⟩ N hN
    rw [List.length_cons] at hl2
    refine ⟨_, rfl, ?_⟩
    and_intros
    refine ⟨by decide, by rw [List.length_map, szL]; omega, by decide, by rw [List.length_append, List.length_map, List.length_singleton, szL]; omega, hN _ ⟨ts ++ [((n, ("" : Str), 9999) : Tst), (("" : Str), n, 0)], some (0, .str n), hf, by rw [List.length_append]; simp only [List.length_cons, List.length_nil]; omega, ?_⟩⟩
    rw [List.map_append]
    simp [tsD]
  · rintro ρ ⟨ts, a, hf, hl2, rfl⟩
    and_intros
    have hf : ts = poolC cs := hf
    rw [hf]
    exact hR
abbrev s_law_shortest : Stmt := topS 37
theorem sc_law_shortest : FnScope ["pool", "words", "test", "word", "rows", "start", "step", "k", "after", "row"] ["pool"] (defScope s_law_shortest) := ⟨rfl, rfl, rfl, by decide +kernel, rfl, by decide +kernel, by decide +kernel⟩
theorem ok_law_shortest {f : Addr} {fd : FuncData} (F : Fun K "_law_shortest" "_law_shortest" s_law_shortest f fd) (T : Bi mg)  : FnOk P w K mg base CX0 1 f fd ["pool"] (spD K (.own 0) w_law_shortest) := by
  refine Fun_okD F sc_law_shortest (fun _ _ _ h => by obtain ⟨_, e, _, _, _⟩ := h; rw [e]; rfl) fun B cdv A outer s H E hr => ⟨_, (ds_cons (ds_setM 1 1 sc_law_shortest.nd rfl (by first | exact Or.inl rfl | exact Or.inr rfl) (by decide) (dm_of (de_lst 0 (da_cons (m := .own 0) (de_str (m := .own 0)) da_nil))))
(ds_cons (ds_for PassesOwn.never rfl (di_list (de_v 0)) (dg_name 2 sc_law_shortest.nd rfl (by first | exact Or.inl rfl | exact Or.inr rfl) (by decide))
(ds_one (ds_for PassesOwn.never rfl (di_tup (de_slT (de_v 2) (do_some (de_int (m := .rd))) (do_some (de_int (m := .rd))))) (dg_name 3 sc_law_shortest.nd rfl (by first | exact Or.inl rfl | exact Or.inr rfl) (by decide))
(ds_one (ds_if (dt_notin (de_v 3) (de_var 1 1))
(ds_one (ds_exprM (m := .own 0) (dm_append 1 0 (dm_of (de_v 3)))))
ds_nil)))))
(ds_cons (ds_frz 1 (ds_setM 4 1 sc_law_shortest.nd rfl (by first | exact Or.inl rfl | exact Or.inr rfl) (by decide) (dm_of (de_lst 0 da_nil))))
(ds_cons (ds_for PassesOwn.never rfl (di_list (de_v 1)) (dg_name 3 sc_law_shortest.nd rfl (by first | exact Or.inl rfl | exact Or.inr rfl) (by decide))
(ds_cons (ds_setM 5 1 sc_law_shortest.nd rfl (by first | exact Or.inl rfl | exact Or.inr rfl) (by decide) (dm_of (de_dnewK 0)))
(ds_cons (ds_putK 5 (hr.u 1) (dm_of (de_tup (da_cons (m := .own 0) (de_int (m := .own 0)) (da_cons (m := .own 0) (de_frz (de_lst 0 da_nil)) da_nil)))) (de_v 3))
(ds_one (ds_frz 5 (ds_exprM (m := .own 0) (dm_append 4 0 (dm_of (de_v 5)))))))))
(ds_cons (ds_for PassesOwn.never rfl (di_range T.range_ (de_len (m := .rd) T.len_ (de_v 1))) (dg_name 6 sc_law_shortest.nd rfl (by first | exact Or.inl rfl | exact Or.inr rfl) (by decide))
(ds_one (ds_for PassesOwn.never rfl (di_range T.range_ (de_len (m := .rd) T.len_ (de_v 1))) (dg_name 7 sc_law_shortest.nd rfl (by first | exact Or.inl rfl | exact Or.inr rfl) (by decide))
(ds_cons (ds_setM 8 1 sc_law_shortest.nd rfl (by first | exact Or.inl rfl | exact Or.inr rfl) (by decide) (dm_of (de_dnewK 0)))
(ds_cons (ds_for PassesOwn.never rfl (di_list (de_v 0)) (dg_name 2 sc_law_shortest.nd rfl (by first | exact Or.inl rfl | exact Or.inr rfl) (by decide))
(ds_one (ds_if (dt_din (hr.u 1) (de_at (de_v 2) (de_int (m := .rd))) (de_at (de_var 4 1) (de_v 7)))
(ds_cons (ds_setM 9 0 sc_law_shortest.nd rfl (by first | exact Or.inl rfl | exact Or.inr rfl) (by decide) (dm_of (de_bor0 (de_dget (hr.u 1) (de_at (de_var 4 1) (de_v 7)) (de_at (de_v 2) (de_int (m := .rd)))))))
(ds_one (ds_if (dt_bool (dw_or (dt_dnotin (hr.u 1) (de_at (de_v 2) (de_int (m := .rd))) (de_var 8 1)) (dw_or1 (dt_lt (de_add (m := .rd) (de_at (de_v 9) (de_int (m := .rd))) (de_at (de_v 2) (de_int (m := .rd)))) (de_at (de_dget (hr.u 1) (de_var 8 1) (de_at (de_v 2) (de_int (m := .rd)))) (de_int (m := .rd)))))))
(ds_one (ds_putK 8 (hr.u 1) (dm_of (de_tup (da_cons (m := .own 0) (de_add (m := .own 0) (de_at (de_v 9) (de_int (m := .rd))) (de_at (de_v 2) (de_int (m := .rd)))) (da_cons (m := .own 0) (de_frz (de_cat (de_at (de_v 9) (de_int (m := .rd))) (de_frz (de_lst 0 (da_cons (m := .own 0) (de_v 2) da_nil))))) da_nil)))) (de_at (de_v 2) (de_int (m := .rd)))))
ds_nil)))
ds_nil)))
(ds_cons (ds_frz 8 (ds_setL 4 0 (dm_of (de_v 8)) (de_v 7)))
(ds_one (ds_if (dt_bool (dw_and (dt_din (hr.u 1) (de_at (de_v 1) (de_v 7)) (de_v 8)) (dw_and1 (dt_lt (de_at (de_dget (hr.u 1) (de_v 8) (de_at (de_v 1) (de_v 7))) (de_int (m := .rd))) (de_int (m := .rd))))))
(ds_one (ds_retM (dm_of (de_at (de_dget (hr.u 1) (de_v 8) (de_at (de_v 1) (de_v 7))) (de_int (m := .rd))))))
ds_nil))))))))
(ds_one (ds_retM (dm_of (de_non (m := .own 0)))))))))), fun ds R ⟨ps, e, ok, hN, hR⟩ => ?_⟩
  subst e
  have hnl := ok.num
  have hpl := ok.len
  and_intros
  refine ⟨by decide, ?_⟩
  refine forD_map (fun ts ρ => ∃ (ws : List Str) (a b : Option (Nat × D)), ts.foldl addN2 ws = nums ps ∧ ws.length + 2 * ts.length ≤ 101 ∧ ρ = [some (0, .lst (ps.map tsD)), some (1, .lst (ws.map .str)), a, b, none, none, none, none, none, none]) ⟨[""], none, none, rfl, by rw [List.length_singleton]; omega, rfl⟩ ?_ ?_
  · rintro t ts ρ ⟨ws, a, b, hf, hl, rfl⟩ N hN
    rw [List.length_cons] at hl
    refine ⟨_, rfl, ?_⟩
    and_intros
    refine forD_map (ι := .str) (l := [t.1, t.2.1]) (fun xs ρ => ∃ (ws : List Str) (b : Option (Nat × D)), ts.foldl addN2 (xs.foldl addN ws) = nums ps ∧ ws.length + xs.length + 2 * ts.length ≤ 101 ∧ ρ = [some (0, .lst (ps.map tsD)), some (1, .lst (ws.map .str)), some (0, tsD t), b, none, none, none, none, none, none]) ⟨ws, b, hf, by simp only [List.length_cons, List.length_nil]; omega, rfl⟩ ?_ ?_
    · rintro x xs ρ ⟨ws, b, hf, hl, rfl⟩ N hN
      rw [List.length_cons] at hl
      refine ⟨_, rfl, ?_⟩
      and_intros
      refine gIn_strs ?_
      rw [List.foldl_cons] at hf
      unfold addN at hf
      by_cases c : x ∈ ws
      · rw [decide_eq_true c]
        rw [if_pos c] at hf
        and_intros
        exact hN _ ⟨ws, _, hf, by omega, rfl⟩
      · rw [decide_eq_false c]
        rw [if_neg c] at hf
        and_intros
        refine ⟨by rw [List.length_map, szL]; omega, hN _ ⟨ws ++ [x], _, hf, by rw [List.length_append, List.length_singleton]; omega, by rw [List.map_append]; rfl⟩⟩
    · rintro ρ ⟨ws, b, hf, hl, rfl⟩
      exact hN _ ⟨ws, _, _, hf, by rw [List.length_nil] at hl; omega, rfl⟩
  rintro ρ ⟨ws, a, b, hf, hl, rfl⟩
  have hf : ws = nums ps := hf
  subst hf
  clear hl
  and_intros
  refine ⟨by decide, ?_⟩
  refine forD_pre (fun dn rs ρ => ∃ (a b c : Option (Nat × D)), ρ = [some (0, .lst (ps.map tsD)), some (0, .lst ((nums ps).map .str)), a, b, some (1, .lst (dn.map fun w => rowSD (lrS ps w 0))), c, none, none, none, none]) ⟨_, _, none, rfl⟩ ?_ ?_
  · rintro dn w rs ρ hd ⟨a, b, c, rfl⟩ N hN
    have hdl : dn.length ≤ 50 := by rw [← hd, List.length_append] at hnl; omega
    refine ⟨_, rfl, ?_⟩
    and_intros
    refine ⟨by decide, by decide, ⟨rfl, trivial⟩, _, rfl, ⟨rfl, by decide, ?_⟩⟩
    and_intros
    refine ⟨by rw [List.length_map, szL]; omega, hN _ ⟨_, _, _, by rw [List.map_append]; rfl⟩⟩
  rintro ρ ⟨a, b, c, rfl⟩
  and_intros
  rw [List.length_map]
  refine rng_go (by omega) ?_
  refine forD_rng (fun s ρ => ∃ (a b c d e f g : Option (Nat × D)), (∀ j, 0 < j → j ≤ s → ∀ v ∈ nums ps, ∀ b l, gA (lrS ps v j) v = some (b, l) → 0 ≤ b) ∧ ρ = [some (0, .lst (ps.map tsD)), some (0, .lst ((nums ps).map .str)), a, b, some (1, .lst (rowsD ps (nums ps) s 0)), c, d, e, f, g]) ⟨_, _, _, none, none, none, none, fun j h1 h2 => by omega, rfl⟩ ?_ ?_
  · rintro s ρ _ hs ⟨a, b, c, d, e, f, g, hm, rfl⟩ N hN
    rw [Nat.zero_add] at hs
    refine ⟨_, rfl, ?_⟩
    and_intros
    rw [List.length_map]
    refine rng_go (by omega) ?_
    refine forD_rng (fun k ρ => ∃ (a b c e f g : Option (Nat × D)), (∀ j (hj : j < (nums ps).length), j < k → ∀ b l, gA (lrS ps (nums ps)[j] (s + 1)) (nums ps)[j] = some (b, l) → 0 ≤ b) ∧ ρ = [some (0, .lst (ps.map tsD)), some (0, .lst ((nums ps).map .str)), a, b, some (1, .lst (rowsD ps (nums ps) s k)), c, some (0, natD s), e, f, g]) ⟨_, _, _, _, _, _, fun j _ h => by omega, rfl⟩ ?_ ?_
    · rintro k ρ _ hk ⟨a, b, c, e, f, g, hm2, rfl⟩ N hN
      rw [Nat.zero_add] at hk
      refine ⟨_, rfl, ?_⟩
      and_intros
      have hget := rowsD_get (ps := ps) (s := s) hk
      refine forD_map (fun ts ρ => ∃ (acc : RowS) (a g : Option (Nat × D)), ts.foldl (stepS (lrS ps (nums ps)[k] s)) acc = lrS ps (nums ps)[k] (s + 1) ∧ acc.length + ts.length ≤ 50 ∧ ρ = [some (0, .lst (ps.map tsD)), some (0, .lst ((nums ps).map .str)), a, b, some (1, .lst (rowsD ps (nums ps) s k)), c, some (0, natD s), some (0, natD k), some (1, rowSD acc), g]) ⟨[], _, _, rfl, by rw [List.length_nil]; omega, rfl⟩ ?_ ?_
      · rintro t ts ρ ⟨acc, a, g, hf, hl, rfl⟩ N hN
        rw [List.length_cons] at hl
        rw [List.foldl_cons] at hf
        refine ⟨_, rfl, ?_⟩
        and_intros
        refine gIx_nat hget ?_
        refine sin_go ?_
        unfold stepS at hf
        cases q : gA (lrS ps (nums ps)[k] s) t.2.1 with
        | none =>
          rw [q] at hf
          and_intros
          exact hN _ ⟨acc, _, _, hf, by omega, rfl⟩
        | some r0 =>
          obtain ⟨b0, l0⟩ := r0
          rw [q] at hf
          and_intros
          refine gIx_nat hget ?_
          refine sget_go q ?_
          have hl0 := ((lrS_ok (ps := ps) (w := (nums ps)[k]) s).wk _ _ _ q).2.1
          have put : ∀ a : Option (Nat × D), ts.foldl (stepS (lrS ps (nums ps)[k] s)) (iA acc t.1 (b0 + t.2.2, l0 ++ [t])) = lrS ps (nums ps)[k] (s + 1) → N [some (0, .lst (ps.map tsD)), some (0, .lst ((nums ps).map .str)), a, b, some (1, .lst (rowsD ps (nums ps) s k)), c, some (0, natD s), some (0, natD k), some (1, .dK (putD (acc.map (kvA qS tqD)) (Sum.inr t.1 : Key) (tqD (b0 + t.2.2, l0 ++ [t])))), some (0, tqD (b0, l0))] := fun a h => by
            have := hN _ ⟨_, a, some (0, tqD (b0, l0)), h, by have := iA_len (l := acc) (k := t.1) (v := (b0 + t.2.2, l0 ++ [t])); omega, rfl⟩
            unfold rowSD sT at this
            rw [← put_sT] at this
            exact this
          refine sin_go ?_
          cases q2 : gA acc t.1 with
          | none =>
            rw [q2] at hf
            and_intros
            refine ⟨by decide, gCat_go (f := tsD) (a := l0) (b := [t]) (by rw [List.length_singleton, szL]; omega) ?_⟩
            exact ⟨by decide, ⟨rfl, trivial⟩, _, rfl, own_sT (f := tqD) rfl ⟨by rw [List.length_map, szL]; omega, put _ hf⟩⟩
          | some r1 =>
            obtain ⟨b1, l1⟩ := r1
            rw [q2] at hf
            dsimp only at hf
            and_intros
            refine sget_go q2 ?_
            and_intros
            by_cases c9 : b0 + t.2.2 < b1
            · rw [decide_eq_true c9]
              rw [if_pos c9] at hf
              and_intros
              refine ⟨by decide, gCat_go (f := tsD) (a := l0) (b := [t]) (by rw [List.length_singleton, szL]; omega) ?_⟩
              exact ⟨by decide, ⟨rfl, trivial⟩, _, rfl, own_sT (f := tqD) rfl ⟨by rw [List.length_map, szL]; omega, put _ hf⟩⟩
            · rw [decide_eq_false c9]
              rw [if_neg c9] at hf
              and_intros
              exact hN _ ⟨acc, _, _, hf, by omega, rfl⟩
      · rintro ρ ⟨acc, a, g, hf, hl, rfl⟩
        have hf : acc = lrS ps (nums ps)[k] (s + 1) := hf
        subst hf
        and_intros
        have hkk : k < (rowsD ps (nums ps) s k).length := by rw [rowsD_len]; exact hk
        refine ⟨k, ixN_nat hkk, gIx_nat (str_get hk) ?_⟩
        rw [rowsD_set hk]
        have nxt : ∀ e : Option (Nat × D), (∀ b l, gA (lrS ps (nums ps)[k] (s + 1)) (nums ps)[k] = some (b, l) → 0 ≤ b) → N [some (0, .lst (ps.map tsD)), some (0, .lst ((nums ps).map .str)), a, b, some (1, .lst (rowsD ps (nums ps) s (k + 1))), c, some (0, natD s), some (0, natD k), e, g] := fun e he => by
          refine hN _ ⟨_, _, _, _, _, _, fun j hj hjk b l hg => ?_, rfl⟩
          by_cases hj2 : j < k
          · exact hm2 j hj hj2 b l hg
          · have ej : j = k := by omega
            subst ej
            exact he b l hg
        refine sin_go ?_
        cases q : gA (lrS ps (nums ps)[k] (s + 1)) (nums ps)[k] with
        | none =>
          and_intros
          exact nxt _ fun b l h => by rw [q] at h; cases h
        | some r0 =>
          obtain ⟨b0, l0⟩ := r0
          and_intros
          refine gIx_nat (str_get hk) (sget_go q ?_)
          and_intros
          by_cases c9 : b0 < 0
          · rw [decide_eq_true c9]
            and_intros
            refine gIx_nat (str_get hk) (sget_go q ?_)
            and_intros
            obtain ⟨h1, h2⟩ := srch_hit (k := s + 1) (by omega) q c9 (fun j h1 h2 => hm j h1 (by omega))
            exact hR _ h1 h2 (by have := few_le h1; omega)
          · rw [decide_eq_false c9]
            and_intros
            exact nxt _ fun b l h => by rw [q] at h; cases h; omega
    · rintro ρ ⟨a, b, c, e, f, g, hm2, rfl⟩
      and_intros
      rw [Nat.zero_add] at hm2 ⊢
      rw [rowsD_all]
      refine hN _ ⟨_, _, _, _, _, _, _, fun j h1 h2 v hv b l hg => ?_, rfl⟩
      by_cases h3 : j ≤ s
      · exact hm j h1 h3 v hv b l hg
      · have ej : j = s + 1 := by omega
        subst ej
        obtain ⟨i, hi, e⟩ := List.getElem_of_mem hv
        subst e
        exact hm2 i hi hi b l hg
  · rintro ρ ⟨a, b, c, d, e, f, g, hm, rfl⟩
    and_intros
    rw [Nat.zero_add] at hm
    exact hN (srch_none hm)
abbrev s_law_is_test : Stmt := topS 38
theorem sc_law_is_test : FnScope ["test", "word"] ["test"] (defScope s_law_is_test) := ⟨rfl, rfl, rfl, by decide +kernel, rfl, by decide +kernel, by decide +kernel⟩
theorem ok_law_is_test {f : Addr} {fd : FuncData} (F : Fun K "_law_is_test" "_law_is_test" s_law_is_test f fd) (T : Bi mg)  : FnOk P w K mg base CX0 1 f fd ["test"] (spD K (.own 0) w_law_is_test) := by
  refine Fun_okD F sc_law_is_test (fun _ _ _ h => by obtain ⟨_, e, _⟩ := h; rw [e]; rfl) fun B cdv A outer s H E hr => ⟨_, (ds_cons (ds_if (dt_bool (dw_or (dt_not (dt_val (de_isiK (m := .rd) K (by rfl) T.isinstance_ (de_v 0) (de_ty (m := .rd) (T := "tuple") (by rfl) T.tuple_ (by decide +kernel))))) (dw_or (dt_ne (de_len (m := .rd) T.len_ (de_v 0)) (de_int (m := .rd))) (dw_or (dt_val (de_isiK (m := .rd) K (by rfl) T.isinstance_ (de_at (de_v 0) (de_int (m := .rd))) (de_ty (m := .rd) (T := "bool") (by rfl) T.bool_ (by decide +kernel)))) (dw_or1 (dt_not (dt_val (de_isiK (m := .rd) K (by rfl) T.isinstance_ (de_at (de_v 0) (de_int (m := .rd))) (de_ty (m := .rd) (T := "int") (by rfl) T.int_ (by decide +kernel))))))))))
(ds_one (ds_retM (dm_of (de_bl (m := .own 0)))))
ds_nil)
(ds_one (ds_retM (dm_of (de_eq (m := .own 0) (de_len (m := .rd) T.len_ (de_frz (de_lc (own := [("word", 1)]) 0 rfl sc_law_is_test.nd (di_seqU (de_slT (de_v 0) do_none (do_some (de_int (m := .rd))))) (blk_of ["test", "word"] (defScope s_law_is_test) rfl (by decide +kernel) (by decide +kernel) (by decide +kernel) (by decide +kernel)) (dgc_name 1 sc_law_is_test.nd rfl) (hol_cons rfl (fun _ _ => rfl) hol_nil) (fun _ _ _ _ _ => dts_one (dt_not (dt_val (de_isiK (m := .rd) K (by rfl) T.isinstance_ (de_v 1) (de_ty (m := .rd) (T := "str") (by rfl) T.str_ (by decide +kernel)))))) (fun _ _ _ _ _ => (de_int (m := .own 0)))))) (de_int (m := .rd))))))), fun ds R ⟨t, e, hR⟩ => ?_⟩
  subst e
  have i1 : ∀ {K : PySem.W.Frag} {R : D → Prop}, gIsi K [tsD t, .raw (.ty "tuple")] R = R (.bl true) := isi_tup_tup
  have i2 : ∀ {R : D → Prop}, gLen [tsD t] R = R (.int 4) := rfl
  and_intros
  rw [i1]
  and_intros
  rw [i2]
  and_intros
  have i3 : ∀ {R : D → Prop}, gSlTp (tsD t) none (some 3) R = R (.tup [.str "most", .str t.1, .str t.2.1]) := fun {R} => by
    apply propext
    exact ⟨fun h => h.2, fun h => ⟨(by decide : ¬ (HT.sIx 4 0 none = 0 ∧ HT.sIx 4 4 (some 3) = 4)), h⟩⟩
  rw [i3]
  refine seqOf_go (.inr rfl) ?_
  refine compD_fil (xs := [("most" : Str), t.1, t.2.1]) (ι := .str) (fun _ => false) (fun _ => .int 1) (fun x hx => ⟨_, rfl, fun N hN => ?_, fun z => nomatch z⟩) (by rw [szL]; show 3 ≤ _; decide) ?_
  · and_intros
    exact hN
  · and_intros
    exact hR
abbrev s_law_ring : Stmt := topS 39
theorem sc_law_ring : FnScope ["pool", "ring", "test", "total", "seen", "k"] ["pool", "ring"] (defScope s_law_ring) := ⟨rfl, rfl, rfl, by decide +kernel, rfl, by decide +kernel, by decide +kernel⟩
theorem ok_law_ring {f : Addr} {fd : FuncData} (F : Fun K "_law_ring" "_law_ring" s_law_ring f fd) (T : Bi mg) (c_law_is_test : Cal P w K mg base "_law_is_test" 1 ["test"] (.own 0) [] w_law_is_test) : FnOk P w K mg base CX0 2 f fd ["pool", "ring"] (spD K (.own 0) w_law_ring) := by
  refine Fun_okD F sc_law_ring (fun _ _ _ h => by obtain ⟨_, _, e, _, _, _, _⟩ := h; rw [e]; rfl) fun B cdv A outer s H E hr => ⟨_, (ds_cons (ds_if (dt_not (dt_val (de_isiK (m := .rd) K (by rfl) T.isinstance_ (de_v 1) (de_ty (m := .rd) (T := "list") (by rfl) T.list_ (by decide +kernel)))))
(ds_one (ds_retM (dm_of (de_bl (m := .own 0)))))
ds_nil)
(ds_cons (ds_for PassesOwn.never rfl (di_seqU (de_v 1)) (dg_name 2 sc_law_ring.nd rfl (by first | exact Or.inl rfl | exact Or.inr rfl) (by decide))
(ds_one (ds_if (dt_bool (dw_or (dt_not (dt_val (de_C c_law_is_test hr (da_cons (m := .own 0) (de_v 2) da_nil)))) (dw_or1 (dt_notinD (hr.u 65) (de_v 2) (de_v 0)))))
(ds_one (ds_retM (dm_of (de_bl (m := .own 0)))))
ds_nil)))
(ds_cons (ds_setM 3 0 sc_law_ring.nd rfl (by first | exact Or.inl rfl | exact Or.inr rfl) (by decide) (dm_of (de_int (m := .own 0))))
(ds_cons (ds_setM 4 1 sc_law_ring.nd rfl (by first | exact Or.inl rfl | exact Or.inr rfl) (by decide) (dm_of (de_lst 0 da_nil)))
(ds_cons (ds_for PassesOwn.never rfl (di_range T.range_ (de_len (m := .rd) T.len_ (de_v 1))) (dg_name 5 sc_law_ring.nd rfl (by first | exact Or.inl rfl | exact Or.inr rfl) (by decide))
(ds_cons (ds_if (dt_bool (dw_or (dt_ne (de_at (de_at (de_v 1) (de_v 5)) (de_int (m := .rd))) (de_at (de_at (de_v 1) (de_sub (m := .rd) (de_v 5) (de_int (m := .rd)))) (de_int (m := .rd)))) (dw_or1 (dt_in (de_at (de_at (de_v 1) (de_v 5)) (de_int (m := .rd))) (de_var 4 1)))))
(ds_one (ds_retM (dm_of (de_bl (m := .own 0)))))
ds_nil)
(ds_cons (ds_exprM (m := .own 0) (dm_append 4 0 (dm_of (de_at (de_at (de_v 1) (de_v 5)) (de_int (m := .rd))))))
(ds_one (ds_setM 3 0 sc_law_ring.nd rfl (by first | exact Or.inl rfl | exact Or.inr rfl) (by decide) (dm_of (de_add (m := .own 0) (de_v 3) (de_at (de_at (de_v 1) (de_v 5)) (de_int (m := .rd))))))))))
(ds_one (ds_retM (dm_of (de_lt (m := .own 0) (de_v 3) (de_int (m := .rd))))))))))), fun ds R ⟨ps, r, e, ok, hl, hr, hR⟩ => ?_⟩
  subst e
  and_intros
  refine seqOf_go (.inl rfl) ?_
  refine forD_map (fun l ρ => ∃ (a : Option (Nat × D)), allIn ps l = allIn ps r ∧ (∀ t ∈ l, TOk t) ∧ ρ = [some (0, .lst (ps.map tsD)), some (0, .lst (r.map tsD)), a, none, none, none]) ⟨none, rfl, hr, rfl⟩ ?_ ?_
  · rintro t l ρ ⟨a, h1, h2, rfl⟩ N hN
    refine ⟨_, rfl, ?_⟩
    and_intros
    refine ⟨t, rfl, ?_⟩
    and_intros
    unfold allIn at h1
    rw [List.all_cons] at h1
    refine gInD_by tsD_inj pn_ts (ok_ts (h2 t List.mem_cons_self)) (fun u hu => ok_ts (ok.ok u hu)) (fun c => ?_) fun c => ?_
    · rw [decide_eq_true c] at h1
      and_intros
      exact hN _ ⟨_, by unfold allIn; rw [← h1, Bool.true_and], fun u hu => h2 u (List.mem_cons_of_mem _ hu), rfl⟩
    · rw [decide_eq_false c] at h1
      and_intros
      unfold judge allIn at hR
      rw [← h1] at hR
      exact hR
  rintro ρ ⟨a, h1, _, rfl⟩
  and_intros
  have hA : allIn ps r = true := h1.symm
  unfold judge at hR
  rw [hA] at hR
  rw [List.length_map]
  refine ⟨by decide, rng_go (by omega) ?_⟩
  refine forD_rng (fun k ρ => ∃ (dn rs : List Tst) (a b : Option (Nat × D)), dn ++ rs = r ∧ dn.length = k ∧ chk (ahead r dn) (dn.map (·.2.1)) rs = chk (lastO r) [] r ∧ ρ = [some (0, .lst (ps.map tsD)), some (0, .lst (r.map tsD)), a, some (0, .int (sumT dn)), some (1, .lst ((dn.map (·.2.1)).map .str)), b]) ⟨[], r, _, none, rfl, rfl, rfl, rfl⟩ ?_ ?_
  · rintro k ρ _ hk ⟨dn, rs, a, b, hd, hlk, hc, rfl⟩ N hN
    rw [Nat.zero_add] at hk
    cases rs with
    | nil =>
      have := congrArg List.length hd
      rw [List.append_nil] at this
      omega
    | cons t rs =>
      subst hlk
      refine ⟨_, rfl, ?_⟩
      and_intros
      subst hd
      refine at_ts ?_
      and_intros
      refine prev_ts fun u hu => ?_
      and_intros
      rw [hu]
      rw [chk_cons] at hc
      by_cases c1 : t.2.1 = ahead (dn ++ t :: rs) dn
      · rw [decide_eq_true c1] at hc ⊢
        and_intros
        refine at_ts ?_
        and_intros
        refine gIn_strs ?_
        by_cases c2 : t.2.1 ∈ dn.map (·.2.1)
        · rw [decide_eq_true c2] at hc ⊢
          and_intros
          rw [← hc] at hR
          exact hR
        · rw [decide_eq_false c2] at hc ⊢
          and_intros
          refine at_ts ?_
          and_intros
          refine ⟨by rw [List.length_map, List.length_map, szL]; omega, at_ts ?_⟩
          and_intros
          refine hN _ ⟨dn ++ [t], rs, _, _, by simp, by simp, ?_, by rw [sumT_append, sumT_cons, sumT_nil, Int.add_zero, List.map_append (f := fun t : Tst => t.2.1), List.map_append (f := D.str)]; rfl⟩
          rw [ahead_snoc, List.map_append, ← hc]
          simp
      · rw [decide_eq_false c1] at hc ⊢
        and_intros
        rw [← hc] at hR
        exact hR
  · rintro ρ ⟨dn, rs, a, b, hd, hlk, hc, rfl⟩
    and_intros
    have hlen := congrArg List.length hd
    rw [List.length_append] at hlen
    have hrs : rs = [] := List.length_eq_zero_iff.mp (by omega)
    subst hrs
    rw [List.append_nil] at hd
    subst hd
    rw [← hc] at hR
    exact hR
abbrev s_law_due : Stmt := topS 40
theorem sc_law_due : FnScope ["conditions", "names", "name", "condition"] ["conditions"] (defScope s_law_due) := ⟨rfl, rfl, rfl, by decide +kernel, rfl, by decide +kernel, by decide +kernel⟩
theorem ok_law_due {f : Addr} {fd : FuncData} (F : Fun K "_law_due" "_law_due" s_law_due f fd) (T : Bi mg) (c_law_closed : Cal P w K mg base "_law_closed" 1 ["tests", "names"] (.own 0) [] w_law_closed) (c_law_lacked : Cal P w K mg base "_law_lacked" 1 ["alternative"] (.own 0) [] w_law_lacked) (c_law_pool : Cal P w K mg base "_law_pool" 2 ["conditions"] (.own 0) [] w_law_pool) (c_law_shortest : Cal P w K mg base "_law_shortest" 1 ["pool"] (.own 0) [] w_law_shortest) (c_law_used : Cal P w K mg base "_law_used" 1 ["alternative"] (.own 0) [] w_law_used) : FnOk P w K mg base CX0 3 f fd ["conditions"] (spD K (.own 0) w_law_due) := by
  refine Fun_okD F sc_law_due (fun _ _ _ h => by obtain ⟨_, e, _, _⟩ := h; rw [e]; rfl) fun B cdv A outer s H E hr => ⟨_, (ds_cons (ds_setM 1 0 sc_law_due.nd rfl (by first | exact Or.inl rfl | exact Or.inr rfl) (by decide) (dm_of (de_C c_law_used hr (da_cons (m := .own 0) (de_v 0) da_nil))))
(ds_cons (ds_for PassesOwn.never rfl (di_list (de_C c_law_lacked hr (da_cons (m := .own 0) (de_v 0) da_nil))) (dg_name 2 sc_law_due.nd rfl (by first | exact Or.inl rfl | exact Or.inr rfl) (by decide))
(ds_one (ds_if (dt_in (de_v 2) (de_v 1))
(ds_one (ds_retM (dm_of (de_tup (da_cons (m := .own 0) (de_str (m := .own 0)) (da_cons (m := .own 0) (de_v 2) da_nil))))))
ds_nil)))
(ds_cons (ds_if (dt_isnot (de_C c_law_closed hr (da_cons (m := .own 0) (de_frz (de_lc (own := [("condition", 3)]) 0 rfl sc_law_due.nd (di_list (de_v 0)) (blk_of ["conditions", "names", "name", "condition"] (defScope s_law_due) rfl (by decide +kernel) (by decide +kernel) (by decide +kernel) (by decide +kernel)) (dgc_name 3 sc_law_due.nd rfl) (hol_cons rfl (fun _ _ => rfl) hol_nil) (fun _ _ _ _ _ => dts_one (dt_eq (de_at (de_v 3) (de_int (m := .rd))) (de_str (m := .rd)))) (fun _ _ _ _ _ => (de_v 3)))) (da_cons (m := .own 0) (de_v 1) da_nil))) (de_non (m := .rd)))
(ds_one (ds_retM (dm_of (de_non (m := .own 0)))))
ds_nil)
(ds_one (ds_retM (dm_of (de_tup (da_cons (m := .own 0) (de_str (m := .own 0)) (da_cons (m := .own 0) (de_C c_law_shortest hr (da_cons (m := .own 0) (de_C c_law_pool hr (da_cons (m := .own 0) (de_v 0) da_nil)) da_nil)) da_nil))))))))), fun ds R ⟨cs, e, ok, hR⟩ => ?_⟩
  subst e
  and_intros
  refine ⟨cs, rfl, ok, cs, rfl, ok, ?_⟩
  and_intros
  refine forD_map (fun l ρ => ∃ (a : Option (Nat × D)), l.find? (fun n => decide (n ∈ names cs)) = fbad cs ∧ ρ = [some (0, .lst (cs.map cnD)), some (0, .lst ((names cs).map .str)), a, none]) ⟨none, rfl, rfl⟩ ?_ ?_
  · rintro n l ρ ⟨a, hb, rfl⟩ N hN2
    refine ⟨_, rfl, ?_⟩
    and_intros
    refine gIn_strs ?_
    and_intros
    rw [List.find?_cons] at hb
    by_cases q : n ∈ names cs
    · rw [decide_eq_true q] at hb ⊢
      and_intros
      exact ⟨by decide, hR _ (.lack n hb.symm)⟩
    · rw [decide_eq_false q] at hb ⊢
      and_intros
      exact hN2 _ ⟨_, hb, rfl⟩
  · rintro ρ ⟨a, hb, rfl⟩
    and_intros
    have hb : fbad cs = none := hb.symm
    refine compD_map cnD (fun c => (test1 c).map tsD) (fun c hc N hN => ?_) (by have := ok.len; rw [szL]; omega) ?_
    · refine ⟨_, rfl, ?_⟩
      cases c with
      | lacks n =>
        and_intros
        exact hN
      | most t =>
        and_intros
        exact hN
    have e1 : cs.filterMap (fun c => (test1 c).map tsD) = (tests cs).map tsD := by unfold tests; rw [List.map_filterMap]
    rw [e1]
    have hnl := names_len (cs := cs)
    have hcl := ok.len
    refine ⟨tests cs, names cs, rfl, words_nd, by omega, sort_twice _, names_ok ok.ok, fun t ht => words_test ht, ?_⟩
    have key : neg (words cs) (clo (words cs) (tests cs)) = true ∨ ¬ neg (words cs) (clo (words cs) (tests cs)) = true := Decidable.em _
    rcases key with k | k
    · have k2 : neg ("" :: names cs) (clo ("" :: names cs) (tests cs)) = true := k
      rw [if_pos k2]
      and_intros
      refine ⟨cs, rfl, ok, poolC cs, rfl, psC ok, fun h => ?_, fun r h1 h2 h3 => ?_⟩
      · obtain ⟨j, c⟩ := neg_cns (plC cs) k
        exact absurd c (h j)
      · exact ⟨by decide, hR _ (.ring r hb h1 (by omega))⟩
    · have k2 : ¬ neg ("" :: names cs) (clo ("" :: names cs) (tests cs)) = true := k
      rw [if_neg k2]
      and_intros
      exact hR _ (.none hb fun j c => k (cns_neg (plC cs) c))
abbrev s_law_right : Stmt := topS 41
theorem sc_law_right : FnScope ["conditions", "due", "told"] ["conditions", "due", "told"] (defScope s_law_right) := ⟨rfl, rfl, rfl, by decide +kernel, rfl, by decide +kernel, by decide +kernel⟩
theorem ok_law_right {f : Addr} {fd : FuncData} (F : Fun K "_law_right" "_law_right" s_law_right f fd) (T : Bi mg) (c_law_pool : Cal P w K mg base "_law_pool" 2 ["conditions"] (.own 0) [] w_law_pool) (c_law_ring : Cal P w K mg base "_law_ring" 2 ["pool", "ring"] (.own 0) [] w_law_ring) : FnOk P w K mg base CX0 3 f fd ["conditions", "due", "told"] (spD K (.own 0) w_law_right) := by
  refine Fun_okD F sc_law_right (fun _ _ _ h => by obtain ⟨_, _, _, e, _, _, _, _⟩ := h; rw [e]; rfl) fun B cdv A outer s H E hr => ⟨_, (ds_cons (ds_if (dt_is (de_v 1) (de_non (m := .rd)))
(ds_one (ds_retM (dm_of (de_is (m := .own 0) (de_v 2) (de_non (m := .rd))))))
ds_nil)
(ds_cons (ds_if (dt_bool (dw_or (dt_not (dt_val (de_isiK (m := .rd) K (by rfl) T.isinstance_ (de_v 2) (de_ty (m := .rd) (T := "tuple") (by rfl) T.tuple_ (by decide +kernel))))) (dw_or (dt_ne (de_len (m := .rd) T.len_ (de_v 2)) (de_int (m := .rd))) (dw_or (dt_not (dt_val (de_isiK (m := .rd) K (by rfl) T.isinstance_ (de_at (de_v 2) (de_int (m := .rd))) (de_ty (m := .rd) (T := "str") (by rfl) T.str_ (by decide +kernel))))) (dw_or1 (dt_ne (de_at (de_v 2) (de_int (m := .rd))) (de_at (de_v 1) (de_int (m := .rd)))))))))
(ds_one (ds_retM (dm_of (de_bl (m := .own 0)))))
ds_nil)
(ds_cons (ds_if (dt_eq (de_at (de_v 1) (de_int (m := .rd))) (de_str (m := .rd)))
(ds_one (ds_retM (dm_of (de_and (m := .own 0) (de_isiK (m := .rd) K (by rfl) T.isinstance_ (de_at (de_v 2) (de_int (m := .rd))) (de_ty (m := .rd) (T := "str") (by rfl) T.str_ (by decide +kernel))) (de_one (de_eqD (m := .own 0) (hr.u 64) (de_at (de_v 2) (de_int (m := .rd))) (de_at (de_v 1) (de_int (m := .rd)))))))))
ds_nil)
(ds_one (ds_retM (dm_of (de_and (m := .own 0) (de_C c_law_ring hr (da_cons (m := .own 0) (de_C c_law_pool hr (da_cons (m := .own 0) (de_v 0) da_nil)) (da_cons (m := .own 0) (de_at (de_v 2) (de_int (m := .rd))) da_nil))) (de_one (de_eq (m := .own 0) (de_len (m := .rd) T.len_ (de_at (de_v 2) (de_int (m := .rd)))) (de_len (m := .rd) T.len_ (de_at (de_v 1) (de_int (m := .rd))))))))))))), fun ds R ⟨cs, due, told, e, ok, hd, ht, hR⟩ => ?_⟩
  subst e
  cases hd with
  | none h1 h2 =>
    cases ht with
    | none _ _ =>
      and_intros
      exact hR
    | lack n h => rw [h] at h1; cases h1
    | ring r _ g1 g2 _ => exact absurd g2.2.1 (h2 _)
  | lack n h =>
    cases ht with
    | none h1 _ => rw [h] at h1; cases h1
    | lack m h3 =>
      rw [h] at h3
      cases h3
      and_intros
      refine eqD_self ?_ ?_
      · have := List.mem_of_find?_eq_some h
        exact ok.ok _ (lacked_mem.mp this)
      · exact hR
    | ring r h1 _ _ _ => rw [h] at h1; cases h1
  | ring q h1 h2 h3 =>
    cases ht with
    | none _ h => exact absurd h2.2.1 (h _)
    | lack n h => rw [h] at h1; cases h1
    | ring r _ g1 g2 g3 =>
      and_intros
      refine ⟨cs, rfl, ok, poolC cs, r, rfl, psC ok, by omega, fun t ht => ?_, ?_⟩
      · unfold judge at g1
        rw [Bool.and_eq_true, Bool.and_eq_true] at g1
        exact (psC ok).ok t (of_decide_eq_true (List.all_eq_true.mp g1.1.1 t ht))
      · rw [g1]
        and_intros
        rw [List.length_map, List.length_map, g2.uniq h2]
        and_intros
        exact hR
abbrev s_law_shown : Stmt := topS 42
theorem sc_law_shown : FnScope ["conditions", "pool", "paper"] ["conditions", "pool", "paper"] (defScope s_law_shown) := ⟨rfl, rfl, rfl, by decide +kernel, rfl, by decide +kernel, by decide +kernel⟩
theorem ok_law_shown {f : Addr} {fd : FuncData} (F : Fun K "_law_shown" "_law_shown" s_law_shown f fd) (T : Bi mg) (c_law_lacked : Cal P w K mg base "_law_lacked" 1 ["alternative"] (.own 0) [] w_law_lacked) (c_law_ring : Cal P w K mg base "_law_ring" 2 ["pool", "ring"] (.own 0) [] w_law_ring) (c_law_used : Cal P w K mg base "_law_used" 1 ["alternative"] (.own 0) [] w_law_used) : FnOk P w K mg base CX0 3 f fd ["conditions", "pool", "paper"] (spD K (.own 0) w_law_shown) := by
  refine Fun_okD F sc_law_shown (fun _ _ _ h => by obtain ⟨_, _, e, _, _, _⟩ := h; rw [e]; rfl) fun B cdv A outer s H E hr => ⟨_, (ds_cons (ds_if (dt_eq (de_at (de_v 2) (de_int (m := .rd))) (de_str (m := .rd)))
(ds_one (ds_retM (dm_of (de_and (m := .own 0) (de_inD (m := .rd) (hr.u 65) (de_at (de_v 2) (de_int (m := .rd))) (de_C c_law_used hr (da_cons (m := .own 0) (de_v 0) da_nil))) (de_one (de_inD (m := .own 0) (hr.u 65) (de_at (de_v 2) (de_int (m := .rd))) (de_C c_law_lacked hr (da_cons (m := .own 0) (de_v 0) da_nil))))))))
ds_nil)
(ds_one (ds_retM (dm_of (de_and (m := .own 0) (de_eq (m := .rd) (de_at (de_v 2) (de_int (m := .rd))) (de_str (m := .rd))) (de_one (de_C c_law_ring hr (da_cons (m := .own 0) (de_v 1) (da_cons (m := .own 0) (de_at (de_v 2) (de_int (m := .rd))) da_nil))))))))), fun ds R ⟨cs, p, e, ok, hp, hR⟩ => ?_⟩
  subst e
  cases p with
  | lack n =>
    have hR : R (.bl (decide (n ∈ names cs) && decide (n ∈ lacked cs))) := hR
    and_intros
    refine ⟨cs, rfl, ok, gInD_strs hp (names_ok ok.ok) ?_⟩
    by_cases c : n ∈ names cs
    · rw [decide_eq_true c] at hR ⊢
      and_intros
      refine ⟨cs, rfl, ok, gInD_strs hp (fun y hy => ok.ok _ (lacked_mem.mp hy)) ?_⟩
      rw [Bool.true_and] at hR
      and_intros
      exact hR
    · rw [decide_eq_false c] at hR ⊢
      and_intros
      exact hR
  | ring k r =>
    have hR : R (.bl (decide (k = "ring") && judge (poolC cs) r)) := hR
    rcases hp.1 with rfl | rfl
    · and_intros
      refine ⟨poolC cs, r, rfl, psC ok, hp.2.1, hp.2.2, ?_⟩
      and_intros
      exact hR
    · and_intros
      exact hR
abbrev s_law_papers : Stmt := topS 43
theorem sc_law_papers : FnScope ["bag", "conditions", "names", "papers", "name", "pool", "ring", "at", "test", "less", "turned", "row"] ["bag", "conditions", "names"] (defScope s_law_papers) := ⟨rfl, rfl, rfl, by decide +kernel, rfl, by decide +kernel, by decide +kernel⟩
theorem ok_law_papers {f : Addr} {fd : FuncData} (F : Fun K "_law_papers" "_law_papers" s_law_papers f fd) (T : Bi mg) (c_law_draw : Cal P w K mg base "_law_draw" 1 ["bag", "size"] (.own 0) [] wDraw) (c_law_lacked : Cal P w K mg base "_law_lacked" 1 ["alternative"] (.own 0) [] w_law_lacked) (c_law_pool : Cal P w K mg base "_law_pool" 2 ["conditions"] (.own 0) [] w_law_pool) (c_law_shortest : Cal P w K mg base "_law_shortest" 1 ["pool"] (.own 0) [] w_law_shortest) : FnOk P w K mg base CX0 3 f fd ["bag", "conditions", "names"] (spD K (.own 0) w_law_papers) := by
  refine Fun_okD F sc_law_papers (fun _ _ _ h => by obtain ⟨_, _, _, _, e, _, _, _, _, _⟩ := h; rw [e]; rfl) fun B cdv A outer s H E hr => ⟨_, (ds_cons (ds_setM 3 1 sc_law_papers.nd rfl (by first | exact Or.inl rfl | exact Or.inr rfl) (by decide) (dm_of (de_lst 0 (da_cons (m := .own 0) (de_tup (da_cons (m := .own 0) (de_str (m := .own 0)) (da_cons (m := .own 0) (de_frz (de_lst 0 da_nil)) da_nil))) (da_cons (m := .own 0) (de_tup (da_cons (m := .own 0) (de_str (m := .own 0)) (da_cons (m := .own 0) (de_str (m := .own 0)) da_nil))) (da_cons (m := .own 0) (de_tup (da_cons (m := .own 0) (de_str (m := .own 0)) (da_cons (m := .own 0) (de_catS (m := .own 0) (de_at (de_v 2) (de_int (m := .rd))) (de_str (m := .rd))) da_nil))) da_nil))))))
(ds_cons (ds_for PassesOwn.never rfl (di_list (de_v 2)) (dg_name 4 sc_law_papers.nd rfl (by first | exact Or.inl rfl | exact Or.inr rfl) (by decide))
(ds_one (ds_exprM (m := .own 0) (dm_append 3 0 (dm_of (de_tup (da_cons (m := .own 0) (de_str (m := .own 0)) (da_cons (m := .own 0) (de_v 4) da_nil))))))))
(ds_cons (ds_setM 5 0 sc_law_papers.nd rfl (by first | exact Or.inl rfl | exact Or.inr rfl) (by decide) (dm_of (de_C c_law_pool hr (da_cons (m := .own 0) (de_v 1) da_nil))))
(ds_cons (ds_setM 6 0 sc_law_papers.nd rfl (by first | exact Or.inl rfl | exact Or.inr rfl) (by decide) (dm_of (de_C c_law_shortest hr (da_cons (m := .own 0) (de_v 5) da_nil))))
(ds_cons (ds_if (dt_is (de_v 6) (de_non (m := .rd)))
(ds_one (ds_setM 6 0 sc_law_papers.nd rfl (by first | exact Or.inl rfl | exact Or.inr rfl) (by decide) (dm_of (de_frz (de_slL (de_frz (de_slL (de_v 5) (do_some (de_sub (m := .rd) (de_len (m := .rd) T.len_ (de_v 1)) (de_len (m := .rd) T.len_ (de_C c_law_lacked hr (da_cons (m := .own 0) (de_v 1) da_nil))))) do_none)) do_none (do_some (de_int (m := .rd))))))))
ds_nil)
(ds_cons (ds_if (dt_eq (de_len (m := .rd) T.len_ (de_v 6)) (de_int (m := .rd)))
(ds_one (ds_frz 3 (ds_retM (dm_of (de_v 3)))))
ds_nil)
(ds_cons (ds_setM 7 0 sc_law_papers.nd rfl (by first | exact Or.inl rfl | exact Or.inr rfl) (by decide) (dm_of (de_C c_law_draw hr (da_cons (m := .own 0) (de_v 0) (da_cons (m := .own 0) (de_len (m := .own 0) T.len_ (de_v 6)) da_nil)))))
(ds_cons (ds_setM 8 0 sc_law_papers.nd rfl (by first | exact Or.inl rfl | exact Or.inr rfl) (by decide) (dm_of (de_at (de_v 6) (de_v 7))))
(ds_cons (ds_setM 9 0 sc_law_papers.nd rfl (by first | exact Or.inl rfl | exact Or.inr rfl) (by decide) (dm_of (de_tup (da_cons (m := .own 0) (de_str (m := .own 0)) (da_cons (m := .own 0) (de_at (de_v 8) (de_int (m := .rd))) (da_cons (m := .own 0) (de_at (de_v 8) (de_int (m := .rd))) (da_cons (m := .own 0) (de_sub (m := .own 0) (de_at (de_v 8) (de_int (m := .rd))) (de_int (m := .rd))) da_nil)))))))
(ds_cons (ds_setM 10 0 sc_law_papers.nd rfl (by first | exact Or.inl rfl | exact Or.inr rfl) (by decide) (dm_of (de_tup (da_cons (m := .own 0) (de_str (m := .own 0)) (da_cons (m := .own 0) (de_at (de_v 8) (de_int (m := .rd))) (da_cons (m := .own 0) (de_at (de_v 8) (de_int (m := .rd))) (da_cons (m := .own 0) (de_at (de_v 8) (de_int (m := .rd))) da_nil)))))))
(ds_cons (ds_for PassesOwn.never rfl (di_list (de_frz (de_lst 0 (da_cons (m := .own 0) (de_v 6) (da_cons (m := .own 0) (de_frz (de_cat (de_frz (de_slL (de_v 6) (do_some (de_v 7)) do_none)) (de_frz (de_slL (de_v 6) do_none (do_some (de_v 7)))))) (da_cons (m := .own 0) (de_frz (de_cat (de_frz (de_cat (de_frz (de_slL (de_v 6) (do_some (de_int (m := .rd))) (do_some (de_int (m := .rd))))) (de_frz (de_slL (de_v 6) do_none (do_some (de_int (m := .rd))))))) (de_frz (de_slL (de_v 6) (do_some (de_int (m := .rd))) do_none)))) (da_cons (m := .own 0) (de_frz (de_cat (de_v 6) (de_v 6))) (da_cons (m := .own 0) (de_frz (de_cat (de_frz (de_slL (de_v 6) do_none (do_some (de_v 7)))) (de_frz (de_slL (de_v 6) (do_some (de_add (m := .rd) (de_v 7) (de_int (m := .rd)))) do_none)))) da_nil)))))))) (dg_name 11 sc_law_papers.nd rfl (by first | exact Or.inl rfl | exact Or.inr rfl) (by decide))
(ds_one (ds_exprM (m := .own 0) (dm_append 3 0 (dm_of (de_tup (da_cons (m := .own 0) (de_str (m := .own 0)) (da_cons (m := .own 0) (de_v 11) da_nil))))))))
(ds_cons (ds_exprM (m := .own 0) (dm_append 3 0 (dm_of (de_tup (da_cons (m := .own 0) (de_str (m := .own 0)) (da_cons (m := .own 0) (de_frz (de_cat (de_frz (de_cat (de_frz (de_slL (de_v 6) do_none (do_some (de_v 7)))) (de_frz (de_lst 0 (da_cons (m := .own 0) (de_v 9) da_nil))))) (de_frz (de_slL (de_v 6) (do_some (de_add (m := .rd) (de_v 7) (de_int (m := .rd)))) do_none)))) da_nil))))))
(ds_cons (ds_exprM (m := .own 0) (dm_append 3 0 (dm_of (de_tup (da_cons (m := .own 0) (de_str (m := .own 0)) (da_cons (m := .own 0) (de_frz (de_cat (de_frz (de_cat (de_frz (de_slL (de_v 6) do_none (do_some (de_v 7)))) (de_frz (de_lst 0 (da_cons (m := .own 0) (de_v 10) da_nil))))) (de_frz (de_slL (de_v 6) (do_some (de_add (m := .rd) (de_v 7) (de_int (m := .rd)))) do_none)))) da_nil))))))
(ds_cons (ds_exprM (m := .own 0) (dm_append 3 0 (dm_of (de_tup (da_cons (m := .own 0) (de_str (m := .own 0)) (da_cons (m := .own 0) (de_v 6) da_nil))))))
(ds_one (ds_frz 3 (ds_retM (dm_of (de_v 3))))))))))))))))))), fun ds R ⟨b, cs, nm, hb, e, ok, hn, hl, hnm, hR⟩ => ?_⟩
  subst e
  have hnp := List.length_pos_iff.mpr hn
  and_intros
  refine ⟨by decide, by decide, by decide, gIx_nat (k := 0) (str_get hnp) ?_⟩
  rw [gCatS_str]
  have h0 := hnm _ (List.getElem_mem hnp)
  have ha : ("a" : Str).length = 1 := rfl
  refine ⟨by rw [ha, szL]; omega, by decide, by decide, ?_⟩
  have oa : strOk "a" = true := by decide +kernel
  have oe : strOk "" = true := by decide +kernel
  refine forD_map (fun ns ρ => ∃ (pp : List Pap) (a : Option (Nat × D)), pp.length + ns.length ≤ 7 ∧ (∀ n ∈ ns, strOk n = true) ∧ (∀ p ∈ pp, PapOk p) ∧ ρ = [some (0, .raw (.ref b)), some (0, .lst (cs.map cnD)), some (0, .lst (nm.map .str)), some (1, .lst (pp.map papD)), a, none, none, none, none, none, none, none]) ⟨[.ring "ring" [], .lack "", .lack (nm[0] ++ "a")], none, by simp only [List.length_cons, List.length_nil]; omega, fun n h => (hnm n h).1, fun p hp => ?_, rfl⟩ ?_ ?_
  · simp only [List.mem_cons, List.not_mem_nil, or_false] at hp
    rcases hp with rfl | rfl | rfl
    · exact ⟨.inl rfl, by decide, fun t h => nomatch h⟩
    · exact oe
    · exact strOk_cat h0.1 oa
  · rintro n ns ρ ⟨pp, a, hpl, hns, hpp, rfl⟩ N hN
    rw [List.length_cons] at hpl
    refine ⟨_, rfl, ?_⟩
    and_intros
    refine ⟨by decide, by rw [List.length_map, szL]; omega, hN _ ⟨pp ++ [.lack n], _, by rw [List.length_append, List.length_singleton]; omega, fun m hm => hns m (List.mem_cons_of_mem _ hm), fun p hp => ?_, by rw [List.map_append]; rfl⟩⟩
    rcases List.mem_append.mp hp with z | z
    · exact hpp p z
    · rw [List.mem_singleton.mp z]; exact hns n List.mem_cons_self
  rintro ρ ⟨pp, a, hpl, _, hpp, rfl⟩
  and_intros
  refine ⟨cs, rfl, ok, poolC cs, rfl, psC ok, fun hno => ?_, fun r _ hr1 hr2 => ?_⟩
  · and_intros
    refine ⟨cs, rfl, ok, ?_⟩
    and_intros
    refine gSlL_go (f := tsD) (l := poolC cs) ?_
    refine gSlL_go (f := tsD) ?_
    have hr1 : ∀ t ∈ cutA (cutA (poolC cs) (some (((cs.map cnD).length : Int) - (((lacked cs).map D.str).length : Int))) none) none (some 2), t ∈ poolC cs := fun t ht => cutA_mem (cutA_mem ht)
    have hr2 : (cutA (cutA (poolC cs) (some (((cs.map cnD).length : Int) - (((lacked cs).map D.str).length : Int))) none) none (some 2)).length ≤ 50 := Nat.le_trans (Nat.le_trans cutA_len cutA_len) (psC ok).len
    generalize cutA (cutA (poolC cs) (some (((cs.map cnD).length : Int) - (((lacked cs).map D.str).length : Int))) none) none (some 2) = r at *
    and_intros

    rw [List.length_map]
    by_cases z0 : (r.length : Int) = 0
    · rw [decide_eq_true z0]
      and_intros
      exact hR pp (by omega) hpp
    rw [decide_eq_false z0]
    and_intros
    refine drawN r.length hb (by omega) (by omega) fun p hp => ?_
    and_intros
    refine gIx_nat (map_get (f := tsD) (l := r) hp) ?_
    and_intros
    have hmem : r[p] ∈ r := List.getElem_mem hp
    generalize r[p] = u at *
    have c1 := cutA_len (l := r) (lo := some (p : Int)) (hi := none)
    have c2 := cutA_len (l := r) (lo := none) (hi := some (p : Int))
    have c3 := cutA_len (l := r) (lo := some 1) (hi := some 2)
    have c4 := cutA_len (l := r) (lo := none) (hi := some 1)
    have c5 := cutA_len (l := r) (lo := some 2) (hi := none)
    have c6 := cutA_len (l := r) (lo := some ((p : Int) + 1)) (hi := none)
    refine ⟨by decide, by decide, ?_⟩
    refine gSlL_go (f := tsD) (gSlL_go (f := tsD) (gCat_go (f := tsD) (by rw [szL]; omega) ?_))
    refine gSlL_go (f := tsD) (gSlL_go (f := tsD) (gCat_go (f := tsD) (by rw [szL]; omega) ?_))
    refine gSlL_go (f := tsD) (gCat_go (f := tsD) (by rw [List.length_append, szL]; omega) ?_)
    refine gCat_go (f := tsD) (by rw [szL]; omega) ?_
    refine gSlL_go (f := tsD) (gSlL_go (f := tsD) (gCat_go (f := tsD) (by rw [szL]; omega) ?_))
    refine ⟨by decide, ?_⟩
    have hrows : ∀ l ∈ [r, cutA r (some (p : Int)) none ++ cutA r none (some (p : Int)), cutA r (some 1) (some 2) ++ cutA r none (some 1) ++ cutA r (some 2) none, r ++ r, cutA r none (some (p : Int)) ++ cutA r (some ((p : Int) + 1)) none], l.length ≤ 200 ∧ ∀ t ∈ l, t ∈ r := fun l hl => by
      simp only [List.mem_cons, List.not_mem_nil, or_false] at hl
      rcases hl with rfl | rfl | rfl | rfl | rfl
      · exact ⟨by omega, fun t h => h⟩
      · exact ⟨by rw [List.length_append]; omega, fun t h => (List.mem_append.mp h).elim cutA_mem cutA_mem⟩
      · exact ⟨by rw [List.length_append, List.length_append]; omega, fun t h => (List.mem_append.mp h).elim (fun h => (List.mem_append.mp h).elim cutA_mem cutA_mem) cutA_mem⟩
      · exact ⟨by rw [List.length_append]; omega, fun t h => (List.mem_append.mp h).elim id id⟩
      · exact ⟨by rw [List.length_append]; omega, fun t h => (List.mem_append.mp h).elim cutA_mem cutA_mem⟩
    have g : ∀ t ∈ r, TOk t := fun t h => (psC ok).ok t (hr1 t h)
    have hpl2 : pp.length ≤ 7 := by omega
    clear hpl
    refine forD_map (ι := fun l : List Tst => D.lst (l.map tsD)) (l := [r, cutA r (some (p : Int)) none ++ cutA r none (some (p : Int)), cutA r (some 1) (some 2) ++ cutA r none (some 1) ++ cutA r (some 2) none, r ++ r, cutA r none (some (p : Int)) ++ cutA r (some ((p : Int) + 1)) none]) (fun ls ρ => ∃ (pp : List Pap) (x : Option (Nat × D)), pp.length + ls.length ≤ 12 ∧ (∀ l ∈ ls, l.length ≤ 200 ∧ ∀ t ∈ l, t ∈ r) ∧ (∀ p ∈ pp, PapOk p) ∧ ρ = [some (0, .raw (.ref b)), some (0, .lst (cs.map cnD)), some (0, .lst (nm.map .str)), some (1, .lst (pp.map papD)), a, some (0, .lst ((poolC cs).map tsD)), some (0, .lst (r.map tsD)), some (0, natD p), some (0, tsD u), some (0, tsD (u.1, u.2.1, u.2.2 - 1)), some (0, tsD (u.2.1, u.1, u.2.2)), x]) ⟨pp, none, by simp only [List.length_cons, List.length_nil]; omega, hrows, hpp, rfl⟩ ?_ ?_
    · rintro l ls ρ ⟨pp, x, hpl, hls, hpp, rfl⟩ N hN
      rw [List.length_cons] at hpl
      refine ⟨_, rfl, ?_⟩
      and_intros
      have hl2 := hls l List.mem_cons_self
      refine ⟨by decide, by rw [List.length_map, szL]; omega, hN _ ⟨pp ++ [.ring "ring" l], _, by rw [List.length_append, List.length_singleton]; omega, fun m hm => hls m (List.mem_cons_of_mem _ hm), fun q hq => ?_, by rw [List.map_append]; rfl⟩⟩
      rcases List.mem_append.mp hq with z | z
      · exact hpp q z
      · rw [List.mem_singleton.mp z]; exact ⟨.inl rfl, hl2.1, fun t h => g t (hl2.2 t h)⟩
    rintro ρ ⟨pp, x, hpl, _, hpp, rfl⟩
    rw [List.length_nil] at hpl
    and_intros
    have gc : ∀ (v : Tst), TOk v → (cutA r none (some (p : Int)) ++ [v] ++ cutA r (some ((p : Int) + 1)) none).length ≤ 200 ∧ ∀ t ∈ cutA r none (some (p : Int)) ++ [v] ++ cutA r (some ((p : Int) + 1)) none, TOk t := fun v hv => ⟨by rw [List.length_append, List.length_append, List.length_singleton]; omega, fun t h => (List.mem_append.mp h).elim (fun h => (List.mem_append.mp h).elim (fun h => g t (cutA_mem h)) fun h => by rw [List.mem_singleton.mp h]; exact hv) fun h => g t (cutA_mem h)⟩
    refine gSlL_go (f := tsD) ⟨by decide, gCat_go (f := tsD) (b := [(u.1, u.2.1, u.2.2 - 1)]) (by rw [List.length_singleton, szL]; omega) (gSlL_go (f := tsD) (gCat_go (f := tsD) (by rw [List.length_append, List.length_singleton, szL]; omega) ?_))⟩
    refine ⟨by decide, by rw [List.length_map, szL]; omega, ?_⟩
    refine gSlL_go (f := tsD) ⟨by decide, gCat_go (f := tsD) (b := [(u.2.1, u.1, u.2.2)]) (by rw [List.length_singleton, szL]; omega) (gSlL_go (f := tsD) (gCat_go (f := tsD) (by rw [List.length_append, List.length_singleton, szL]; omega) ?_))⟩
    refine ⟨by decide, by rw [List.length_append, List.length_singleton, List.length_map, szL]; omega, by decide, by rw [List.length_append, List.length_append, List.length_singleton, List.length_singleton, List.length_map, szL]; omega, ?_⟩
    have key := hR (pp ++ [.ring "ring" (cutA r none (some (p : Int)) ++ [(u.1, u.2.1, u.2.2 - 1)] ++ cutA r (some ((p : Int) + 1)) none), .ring "ring" (cutA r none (some (p : Int)) ++ [(u.2.1, u.1, u.2.2)] ++ cutA r (some ((p : Int) + 1)) none), .ring "rings" r]) (by rw [List.length_append]; simp only [List.length_cons, List.length_nil]; omega) fun q hq => ?_
    · rw [List.map_append] at key
      rw [List.append_assoc, List.append_assoc]
      exact key
    · rcases List.mem_append.mp hq with z | z
      · exact hpp q z
      · simp only [List.mem_cons, List.not_mem_nil, or_false] at z
        rcases z with rfl | rfl | rfl
        · exact ⟨.inl rfl, gc _ ⟨(g u hmem).1, (g u hmem).2⟩⟩
        · exact ⟨.inl rfl, gc _ ⟨(g u hmem).2, (g u hmem).1⟩⟩
        · exact ⟨.inr rfl, by omega, g⟩
  · and_intros

    rw [List.length_map]
    by_cases z0 : (r.length : Int) = 0
    · rw [decide_eq_true z0]
      and_intros
      exact hR pp (by omega) hpp
    rw [decide_eq_false z0]
    and_intros
    refine drawN r.length hb (by omega) (by omega) fun p hp => ?_
    and_intros
    refine gIx_nat (map_get (f := tsD) (l := r) hp) ?_
    and_intros
    have hmem : r[p] ∈ r := List.getElem_mem hp
    generalize r[p] = u at *
    have c1 := cutA_len (l := r) (lo := some (p : Int)) (hi := none)
    have c2 := cutA_len (l := r) (lo := none) (hi := some (p : Int))
    have c3 := cutA_len (l := r) (lo := some 1) (hi := some 2)
    have c4 := cutA_len (l := r) (lo := none) (hi := some 1)
    have c5 := cutA_len (l := r) (lo := some 2) (hi := none)
    have c6 := cutA_len (l := r) (lo := some ((p : Int) + 1)) (hi := none)
    refine ⟨by decide, by decide, ?_⟩
    refine gSlL_go (f := tsD) (gSlL_go (f := tsD) (gCat_go (f := tsD) (by rw [szL]; omega) ?_))
    refine gSlL_go (f := tsD) (gSlL_go (f := tsD) (gCat_go (f := tsD) (by rw [szL]; omega) ?_))
    refine gSlL_go (f := tsD) (gCat_go (f := tsD) (by rw [List.length_append, szL]; omega) ?_)
    refine gCat_go (f := tsD) (by rw [szL]; omega) ?_
    refine gSlL_go (f := tsD) (gSlL_go (f := tsD) (gCat_go (f := tsD) (by rw [szL]; omega) ?_))
    refine ⟨by decide, ?_⟩
    have hrows : ∀ l ∈ [r, cutA r (some (p : Int)) none ++ cutA r none (some (p : Int)), cutA r (some 1) (some 2) ++ cutA r none (some 1) ++ cutA r (some 2) none, r ++ r, cutA r none (some (p : Int)) ++ cutA r (some ((p : Int) + 1)) none], l.length ≤ 200 ∧ ∀ t ∈ l, t ∈ r := fun l hl => by
      simp only [List.mem_cons, List.not_mem_nil, or_false] at hl
      rcases hl with rfl | rfl | rfl | rfl | rfl
      · exact ⟨by omega, fun t h => h⟩
      · exact ⟨by rw [List.length_append]; omega, fun t h => (List.mem_append.mp h).elim cutA_mem cutA_mem⟩
      · exact ⟨by rw [List.length_append, List.length_append]; omega, fun t h => (List.mem_append.mp h).elim (fun h => (List.mem_append.mp h).elim cutA_mem cutA_mem) cutA_mem⟩
      · exact ⟨by rw [List.length_append]; omega, fun t h => (List.mem_append.mp h).elim id id⟩
      · exact ⟨by rw [List.length_append]; omega, fun t h => (List.mem_append.mp h).elim cutA_mem cutA_mem⟩
    have g : ∀ t ∈ r, TOk t := fun t h => (psC ok).ok t (hr1 t h)
    have hpl2 : pp.length ≤ 7 := by omega
    clear hpl
    refine forD_map (ι := fun l : List Tst => D.lst (l.map tsD)) (l := [r, cutA r (some (p : Int)) none ++ cutA r none (some (p : Int)), cutA r (some 1) (some 2) ++ cutA r none (some 1) ++ cutA r (some 2) none, r ++ r, cutA r none (some (p : Int)) ++ cutA r (some ((p : Int) + 1)) none]) (fun ls ρ => ∃ (pp : List Pap) (x : Option (Nat × D)), pp.length + ls.length ≤ 12 ∧ (∀ l ∈ ls, l.length ≤ 200 ∧ ∀ t ∈ l, t ∈ r) ∧ (∀ p ∈ pp, PapOk p) ∧ ρ = [some (0, .raw (.ref b)), some (0, .lst (cs.map cnD)), some (0, .lst (nm.map .str)), some (1, .lst (pp.map papD)), a, some (0, .lst ((poolC cs).map tsD)), some (0, .lst (r.map tsD)), some (0, natD p), some (0, tsD u), some (0, tsD (u.1, u.2.1, u.2.2 - 1)), some (0, tsD (u.2.1, u.1, u.2.2)), x]) ⟨pp, none, by simp only [List.length_cons, List.length_nil]; omega, hrows, hpp, rfl⟩ ?_ ?_
    · rintro l ls ρ ⟨pp, x, hpl, hls, hpp, rfl⟩ N hN
      rw [List.length_cons] at hpl
      refine ⟨_, rfl, ?_⟩
      and_intros
      have hl2 := hls l List.mem_cons_self
      refine ⟨by decide, by rw [List.length_map, szL]; omega, hN _ ⟨pp ++ [.ring "ring" l], _, by rw [List.length_append, List.length_singleton]; omega, fun m hm => hls m (List.mem_cons_of_mem _ hm), fun q hq => ?_, by rw [List.map_append]; rfl⟩⟩
      rcases List.mem_append.mp hq with z | z
      · exact hpp q z
      · rw [List.mem_singleton.mp z]; exact ⟨.inl rfl, hl2.1, fun t h => g t (hl2.2 t h)⟩
    rintro ρ ⟨pp, x, hpl, _, hpp, rfl⟩
    rw [List.length_nil] at hpl
    and_intros
    have gc : ∀ (v : Tst), TOk v → (cutA r none (some (p : Int)) ++ [v] ++ cutA r (some ((p : Int) + 1)) none).length ≤ 200 ∧ ∀ t ∈ cutA r none (some (p : Int)) ++ [v] ++ cutA r (some ((p : Int) + 1)) none, TOk t := fun v hv => ⟨by rw [List.length_append, List.length_append, List.length_singleton]; omega, fun t h => (List.mem_append.mp h).elim (fun h => (List.mem_append.mp h).elim (fun h => g t (cutA_mem h)) fun h => by rw [List.mem_singleton.mp h]; exact hv) fun h => g t (cutA_mem h)⟩
    refine gSlL_go (f := tsD) ⟨by decide, gCat_go (f := tsD) (b := [(u.1, u.2.1, u.2.2 - 1)]) (by rw [List.length_singleton, szL]; omega) (gSlL_go (f := tsD) (gCat_go (f := tsD) (by rw [List.length_append, List.length_singleton, szL]; omega) ?_))⟩
    refine ⟨by decide, by rw [List.length_map, szL]; omega, ?_⟩
    refine gSlL_go (f := tsD) ⟨by decide, gCat_go (f := tsD) (b := [(u.2.1, u.1, u.2.2)]) (by rw [List.length_singleton, szL]; omega) (gSlL_go (f := tsD) (gCat_go (f := tsD) (by rw [List.length_append, List.length_singleton, szL]; omega) ?_))⟩
    refine ⟨by decide, by rw [List.length_append, List.length_singleton, List.length_map, szL]; omega, by decide, by rw [List.length_append, List.length_append, List.length_singleton, List.length_singleton, List.length_map, szL]; omega, ?_⟩
    have key := hR (pp ++ [.ring "ring" (cutA r none (some (p : Int)) ++ [(u.1, u.2.1, u.2.2 - 1)] ++ cutA r (some ((p : Int) + 1)) none), .ring "ring" (cutA r none (some (p : Int)) ++ [(u.2.1, u.1, u.2.2)] ++ cutA r (some ((p : Int) + 1)) none), .ring "rings" r]) (by rw [List.length_append]; simp only [List.length_cons, List.length_nil]; omega) fun q hq => ?_
    · rw [List.map_append] at key
      rw [List.append_assoc, List.append_assoc]
      exact key
    · rcases List.mem_append.mp hq with z | z
      · exact hpp q z
      · simp only [List.mem_cons, List.not_mem_nil, or_false] at z
        rcases z with rfl | rfl | rfl
        · exact ⟨.inl rfl, gc _ ⟨(g u hmem).1, (g u hmem).2⟩⟩
        · exact ⟨.inl rfl, gc _ ⟨(g u hmem).2, (g u hmem).1⟩⟩
        · exact ⟨.inr rfl, by omega, g⟩
abbrev s_law_judged : Stmt := topS 44
theorem sc_law_judged : FnScope ["conditions", "pool", "paper", "handed", "told"] ["conditions", "pool", "paper"] (defScope s_law_judged) := ⟨rfl, rfl, rfl, by decide +kernel, rfl, by decide +kernel, by decide +kernel⟩
theorem ok_law_judged {f : Addr} {fd : FuncData} (F : Fun K "_law_judged" "_law_judged" s_law_judged f fd) (T : Bi mg) (c_law_shown : Cal P w K mg base "_law_shown" 3 ["conditions", "pool", "paper"] (.own 0) [] w_law_shown) (c_shows_clash : Cal P w K mg base "shows_clash" 3 ["conditions", "clash"] (.own 0) [] w_shows_clash) : FnOk P w K mg base CX0 4 f fd ["conditions", "pool", "paper"] (spD K (.own 0) w_law_judged) := by
  refine Fun_okD F sc_law_judged (fun _ _ _ h => by obtain ⟨_, _, e, _, _, _⟩ := h; rw [e]; rfl) fun B cdv A outer s H E hr => ⟨_, (ds_cons (ds_setM 3 0 sc_law_judged.nd rfl (by first | exact Or.inl rfl | exact Or.inr rfl) (by decide) (dm_of (de_v 2)))
(ds_cons (ds_if (dt_ne (de_at (de_v 2) (de_int (m := .rd))) (de_str (m := .rd)))
(ds_one (ds_setM 3 0 sc_law_judged.nd rfl (by first | exact Or.inl rfl | exact Or.inr rfl) (by decide) (dm_of (de_tup (da_cons (m := .own 0) (de_at (de_v 2) (de_int (m := .rd))) (da_cons (m := .own 0) (de_frz (de_listU T.list_ (de_at (de_v 2) (de_int (m := .rd))))) da_nil))))))
ds_nil)
(ds_cons (ds_setM 4 0 sc_law_judged.nd rfl (by first | exact Or.inl rfl | exact Or.inr rfl) (by decide) (dm_of (de_C c_shows_clash hr (da_cons (m := .own 0) (de_frz (de_listL T.list_ (de_v 0))) (da_cons (m := .own 0) (de_v 3) da_nil)))))
(ds_one (ds_retM (dm_of (de_and (m := .own 0) (de_isiK (m := .rd) K (by rfl) T.isinstance_ (de_v 4) (de_ty (m := .rd) (T := "bool") (by rfl) T.bool_ (by decide +kernel))) (de_and (m := .own 0) (de_eq (m := .rd) (de_v 4) (de_C c_law_shown hr (da_cons (m := .own 0) (de_v 0) (da_cons (m := .own 0) (de_v 1) (da_cons (m := .own 0) (de_v 2) da_nil))))) (de_one (de_eqD (m := .own 0) (hr.u 64) (de_v 3) (de_v 2))))))))))), fun ds R ⟨cs, p, e, ok, hp, hR⟩ => ?_⟩
  subst e
  have okP : ∀ p, PapOk p → okD 60 (papD p) = true := fun p hp => by
    have e1 : strOk "lacks" = true := by decide +kernel
    have e2 : strOk "ring" = true := by decide +kernel
    have e3 : strOk "rings" = true := by decide +kernel
    cases p with
    | lack n =>
      refine okDs_all (n := 59) fun d hd => ?_
      simp only [List.mem_cons, List.not_mem_nil, or_false] at hd
      rcases hd with rfl | rfl
      · exact e1
      · exact hp
    | ring k r =>
      refine okDs_all (n := 59) fun d hd => ?_
      simp only [List.mem_cons, List.not_mem_nil, or_false] at hd
      rcases hd with rfl | rfl
      · rcases hp.1 with rfl | rfl
        · exact e2
        · exact e3
      · exact okDs_map (n := 58) fun t ht => ok_ts (hp.2.2 t ht)
  cases p with
  | lack n =>
    and_intros
    refine ⟨cs, _, .lack n, rfl, .inl rfl, ok, hp, ?_⟩
    and_intros
    refine ⟨cs, .lack n, rfl, ok, hp, ?_⟩
    and_intros
    refine eqD_self (okP _ hp) ?_
    exact hR
  | ring k r =>
    have hk : decide (k = "lacks") = false := by rcases hp.1 with rfl | rfl <;> decide
    and_intros
    rw [hk]
    and_intros
    refine ⟨by decide, cs, _, .ring k r, rfl, .inl rfl, ok, hp, ?_⟩
    and_intros
    refine ⟨cs, .ring k r, rfl, ok, hp, ?_⟩
    and_intros
    refine eqD_self (okP _ hp) ?_
    exact hR
abbrev s_law_asked : Stmt := topS 45
theorem sc_law_asked : FnScope ["conditions", "papers", "due", "turn", "handed", "told", "row", "pool", "paper"] ["conditions", "papers"] (defScope s_law_asked) := ⟨rfl, rfl, rfl, by decide +kernel, rfl, by decide +kernel, by decide +kernel⟩
theorem ok_law_asked {f : Addr} {fd : FuncData} (F : Fun K "_law_asked" "_law_asked" s_law_asked f fd) (T : Bi mg) (c_law_due : Cal P w K mg base "_law_due" 3 ["conditions"] (.own 0) [] w_law_due) (c_law_judged : Cal P w K mg base "_law_judged" 4 ["conditions", "pool", "paper"] (.own 0) [] w_law_judged) (c_law_pool : Cal P w K mg base "_law_pool" 2 ["conditions"] (.own 0) [] w_law_pool) (c_law_right : Cal P w K mg base "_law_right" 3 ["conditions", "due", "told"] (.own 0) [] w_law_right) (c_clash_of : Cal P w K mg base "clash_of" 6 ["conditions"] (.own 2) [] w_clash_of) (c_shows_clash : Cal P w K mg base "shows_clash" 3 ["conditions", "clash"] (.own 0) [] w_shows_clash) : FnOk P w K mg base CX0 7 f fd ["conditions", "papers"] (spD K (.own 0) w_law_asked) := by
  refine Fun_okD F sc_law_asked (fun _ _ _ h => by obtain ⟨_, _, e, _, _, _, _⟩ := h; rw [e]; rfl) fun B cdv A outer s H E hr => ⟨_, (ds_cons (ds_setM 2 0 sc_law_asked.nd rfl (by first | exact Or.inl rfl | exact Or.inr rfl) (by decide) (dm_of (de_C c_law_due hr (da_cons (m := .own 0) (de_v 0) da_nil))))
(ds_cons (ds_for PassesOwn.never rfl (di_range T.range_ (de_int (m := .rd))) (dg_name 3 sc_law_asked.nd rfl (by first | exact Or.inl rfl | exact Or.inr rfl) (by decide))
(ds_cons (ds_setM 4 0 sc_law_asked.nd rfl (by first | exact Or.inl rfl | exact Or.inr rfl) (by decide) (dm_of (de_frz (de_listL T.list_ (de_v 0)))))
(ds_cons (ds_setM 5 2 sc_law_asked.nd rfl (by first | exact Or.inl rfl | exact Or.inr rfl) (by decide) (dm_of (de_C c_clash_of hr (da_cons (m := .own 0) (de_v 4) da_nil))))
(ds_cons (ds_if (dt_bool (dw_or (dt_neD (hr.u 64) (de_v 4) (de_v 0)) (dw_or1 (dt_not (dt_val (de_CR (n := 0) c_law_right hr (da_cons (m := .rd) (de_rd (de_v 0)) (da_cons (m := .rd) (de_rd (de_v 2)) (da_cons (m := .rd) (de_rd (de_var 5 2)) da_nil)))))))))
(ds_one (ds_retM (dm_of (de_bl (m := .own 0)))))
ds_nil)
(ds_cons (ds_if (dt_bool (dw_and (dt_isnot (de_v 2) (de_non (m := .rd))) (dw_and1 (dt_isnotB (de_CR (n := 0) c_shows_clash hr (da_cons (m := .rd) (de_rd (de_tupL T.tuple_ (de_v 0))) (da_cons (m := .rd) (de_rd (de_var 5 2)) da_nil))) (de_bl (m := .rd))))))
(ds_one (ds_retM (dm_of (de_bl (m := .own 0)))))
ds_nil)
(ds_one (ds_if (dt_bool (dw_and (dt_isnot (de_v 2) (de_non (m := .rd))) (dw_and1 (dt_eq (de_at (de_v 2) (de_int (m := .rd))) (de_str (m := .rd))))))
(ds_cons (ds_setM 6 1 sc_law_asked.nd rfl (by first | exact Or.inl rfl | exact Or.inr rfl) (by decide) (dm_atC 1 (dm_take 5 2)))
(ds_one (ds_exprM (m := .own 0) (dm_lclear 6 0))))
ds_nil)))))))
(ds_cons (ds_setM 7 0 sc_law_asked.nd rfl (by first | exact Or.inl rfl | exact Or.inr rfl) (by decide) (dm_of (de_C c_law_pool hr (da_cons (m := .own 0) (de_v 0) da_nil))))
(ds_one (ds_retM (dm_of (de_eq (m := .own 0) (de_len (m := .rd) T.len_ (de_frz (de_lc (own := [("paper", 8)]) 0 rfl sc_law_asked.nd (di_list (de_v 1)) (blk_of ["conditions", "papers", "due", "turn", "handed", "told", "row", "pool", "paper"] (defScope s_law_asked) rfl (by decide +kernel) (by decide +kernel) (by decide +kernel) (by decide +kernel)) (dgc_name 8 sc_law_asked.nd rfl) (hol_cons rfl (fun _ _ => rfl) hol_nil) (fun _ _ _ _ _ => dts_one (dt_not (dt_val (de_C c_law_judged hr (da_cons (m := .own 0) (de_v 0) (da_cons (m := .own 0) (de_v 7) (da_cons (m := .own 0) (de_v 8) da_nil))))))) (fun _ _ _ _ _ => (de_int (m := .own 0)))))) (de_int (m := .rd))))))))), fun ds R ⟨cs, pp, e, ok, hl, hp, hR⟩ => ?_⟩
  subst e
  and_intros
  refine ⟨cs, rfl, ok, fun due hdue => ?_⟩
  refine rng_go (n := 2) (by decide) ?_
  refine forD_rng (fun k ρ => ∃ (a b c d e f : Option (Nat × D)), ρ = [some (0, .lst (cs.map cnD)), some (0, .lst (pp.map papD)), some (0, due), a, b, c, d, e, f]) ⟨none, none, none, none, none, none, rfl⟩ ?_ ?_
  · rintro k ρ _ hk ⟨a, b, c, d, e, f, rfl⟩ N hN
    refine ⟨_, rfl, ?_⟩
    and_intros
    refine ⟨cs, rfl, ok, fun told htold => ?_⟩
    and_intros
    refine eqD_self (ok_cnds ok.ok) ?_
    and_intros
    refine ⟨cs, due, told, rfl, ok, hdue, htold, rfl, ?_⟩
    and_intros
    cases hdue with
    | none h1 h2 =>
      cases htold with
      | none _ _ =>
        and_intros
        exact hN _ ⟨_, _, _, _, _, _, rfl⟩
      | lack n h => rw [h] at h1; cases h1
      | ring r _ g1 g2 _ => exact absurd g2.2.1 (h2 _)
    | lack n h =>
      cases htold with
      | none h1 _ => rw [h] at h1; cases h1
      | lack m h3 =>
        rw [h] at h3
        cases h3
        and_intros
        have hm := List.mem_of_find?_eq_some h
        have hn : n ∈ names cs := by simpa using List.find?_some h
        refine ⟨cs, _, .lack n, rfl, .inr rfl, ok, ok.ok _ (lacked_mem.mp hm), ?_⟩
        have e1 : shown cs (.lack n) = true := by
          show (decide (n ∈ names cs) && decide (n ∈ lacked cs)) = true
          rw [decide_eq_true hn, decide_eq_true hm]; rfl
        rw [e1]
        refine ⟨rfl, ?_⟩
        and_intros
        exact hN _ ⟨_, _, _, _, _, _, rfl⟩
      | ring r h1 _ _ _ => rw [h] at h1; cases h1
    | ring q h1 h2 h3 =>
      cases htold with
      | none _ h => exact absurd h2.2.1 (h _)
      | lack n h => rw [h] at h1; cases h1
      | ring r _ g1 g2 g3 =>
        and_intros
        refine ⟨cs, _, .ring "ring" r, rfl, .inr rfl, ok, ⟨.inl rfl, by omega, fun t ht => ?_⟩, ?_⟩
        · have g1 := g1
          unfold judge at g1
          rw [Bool.and_eq_true, Bool.and_eq_true] at g1
          exact (psC ok).ok t (of_decide_eq_true (List.all_eq_true.mp g1.1.1 t ht))
        · have e1 : shown cs (.ring "ring" r) = true := g1
          rw [e1]
          refine ⟨rfl, ?_⟩
          and_intros
          exact hN _ ⟨_, _, _, _, _, _, rfl⟩
  · rintro ρ ⟨a, b, c, d, e, f, rfl⟩
    and_intros
    refine ⟨cs, rfl, ok, ?_⟩
    and_intros
    refine compD_fil (xs := pp) (ι := papD) (fun _ => false) (fun _ => .int 1) (fun p hpp => ⟨_, rfl, fun N hN => ?_, fun z => nomatch z⟩) (by rw [szL]; omega) ?_
    · and_intros
      refine ⟨cs, p, rfl, ok, hp p hpp, ?_⟩
      and_intros
      exact hN
    · rw [show pp.filter (fun _ => false) = [] by simp]
      and_intros
      exact hR
abbrev s_law_more_lacks : Stmt := topS 46
theorem sc_law_more_lacks : FnScope ["bag", "conditions", "names", "row", "used", "k", "at"] ["bag", "conditions", "names"] (defScope s_law_more_lacks) := ⟨rfl, rfl, rfl, by decide +kernel, rfl, by decide +kernel, by decide +kernel⟩
theorem ok_law_more_lacks {f : Addr} {fd : FuncData} (F : Fun K "_law_more_lacks" "_law_more_lacks" s_law_more_lacks f fd) (T : Bi mg) (c_law_draw : Cal P w K mg base "_law_draw" 1 ["bag", "size"] (.own 0) [] wDraw) (c_law_used : Cal P w K mg base "_law_used" 1 ["alternative"] (.own 0) [] w_law_used) : FnOk P w K mg base CX0 2 f fd ["bag", "conditions", "names"] (spD K (.own 0) w_law_more_lacks) := by
  refine Fun_okD F sc_law_more_lacks (fun _ _ _ h => by obtain ⟨_, _, _, _, e, _, _, _, _, _⟩ := h; rw [e]; rfl) fun B cdv A outer s H E hr => ⟨_, (ds_cons (ds_setM 3 0 sc_law_more_lacks.nd rfl (by first | exact Or.inl rfl | exact Or.inr rfl) (by decide) (dm_of (de_frz (de_slL (de_v 1) do_none (do_some (de_int (m := .rd)))))))
(ds_cons (ds_if (dt_eq (de_len (m := .rd) T.len_ (de_C c_law_used hr (da_cons (m := .own 0) (de_v 3) da_nil))) (de_int (m := .rd)))
(ds_one (ds_setM 3 0 sc_law_more_lacks.nd rfl (by first | exact Or.inl rfl | exact Or.inr rfl) (by decide) (dm_of (de_frz (de_cat (de_v 3) (de_frz (de_lst 0 (da_cons (m := .own 0) (de_tup (da_cons (m := .own 0) (de_str (m := .own 0)) (da_cons (m := .own 0) (de_at (de_v 2) (de_int (m := .rd))) (da_cons (m := .own 0) (de_str (m := .own 0)) (da_cons (m := .own 0) (de_C c_law_draw hr (da_cons (m := .own 0) (de_v 0) (da_cons (m := .own 0) (de_int (m := .own 0)) da_nil))) da_nil))))) da_nil))))))))
ds_nil)
(ds_cons (ds_setM 4 0 sc_law_more_lacks.nd rfl (by first | exact Or.inl rfl | exact Or.inr rfl) (by decide) (dm_of (de_C c_law_used hr (da_cons (m := .own 0) (de_v 3) da_nil))))
(ds_cons (ds_for PassesOwn.never rfl (di_range T.range_ (de_add (m := .rd) (de_int (m := .rd)) (de_C c_law_draw hr (da_cons (m := .own 0) (de_v 0) (da_cons (m := .own 0) (de_int (m := .own 0)) da_nil))))) (dg_name 5 sc_law_more_lacks.nd rfl (by first | exact Or.inl rfl | exact Or.inr rfl) (by decide))
(ds_cons (ds_setM 6 0 sc_law_more_lacks.nd rfl (by first | exact Or.inl rfl | exact Or.inr rfl) (by decide) (dm_of (de_C c_law_draw hr (da_cons (m := .own 0) (de_v 0) (da_cons (m := .own 0) (de_add (m := .own 0) (de_len (m := .rd) T.len_ (de_v 3)) (de_int (m := .rd))) da_nil)))))
(ds_one (ds_setM 3 0 sc_law_more_lacks.nd rfl (by first | exact Or.inl rfl | exact Or.inr rfl) (by decide) (dm_of (de_frz (de_cat (de_frz (de_cat (de_frz (de_slL (de_v 3) do_none (do_some (de_v 6)))) (de_frz (de_lst 0 (da_cons (m := .own 0) (de_tup (da_cons (m := .own 0) (de_str (m := .own 0)) (da_cons (m := .own 0) (de_at (de_v 4) (de_C c_law_draw hr (da_cons (m := .own 0) (de_v 0) (da_cons (m := .own 0) (de_len (m := .own 0) T.len_ (de_v 4)) da_nil)))) da_nil))) da_nil))))) (de_frz (de_slL (de_v 3) (do_some (de_v 6)) do_none)))))))))
(ds_one (ds_retM (dm_of (de_v 3)))))))), fun ds R ⟨b, cs, nm, hb, e, hci, hnm, hn, hl, hR⟩ => ?_⟩
  subst e
  and_intros
  have hnp := List.length_pos_iff.mpr hn
  have okw : ∀ w ∈ ("" : Str) :: nm, strOk w = true := fun w hw => by
    rcases List.mem_cons.mp hw with e | hw
    · rw [e]; decide +kernel
    · exact (hnm w hw).1
  have okl : ∀ ks : List Cond, ks.length ≤ 10 → (∀ c ∈ ks, CIn (("" : Str) :: nm) c) → CsOk ks := fun ks h1 h2 => ⟨h1, fun c hc => by
    have := h2 c hc
    cases c with
    | lacks n => exact okw n this
    | most s => exact ⟨okw _ this.1, okw _ this.2⟩⟩
  have wsub : ∀ ks : List Cond, (∀ c ∈ ks, CIn (("" : Str) :: nm) c) → ∀ w ∈ names ks, w ∈ ("" : Str) :: nm := fun ks hk w hw => by
    obtain ⟨_, s, hs, e⟩ := names_mem.mp hw
    have := hk _ (tests_mem.mp hs)
    rcases e with e | e
    · rw [e]; exact this.1
    · rw [e]; exact this.2
  refine gSlL_take (k := 3) (f := cnD) (l := cs) ?_
  have hrl : (cs.take 3).length ≤ 3 := by rw [List.length_take]; omega
  have hrm : ∀ c ∈ cs.take 3, CIn (("" : Str) :: nm) c := fun c hc => hci c (List.mem_of_mem_take hc)
  generalize cs.take 3 = r0 at *
  have hnl0 := names_len (cs := r0)
  refine ⟨r0, rfl, okl r0 (by omega) hrm, ?_⟩
  and_intros
  rw [List.length_map]
  by_cases z0 : ((names r0).length : Int) = 0
  · rw [decide_eq_true z0]
    and_intros
    refine gIx_nat (k := 0) (str_get hnp) ?_
    refine drawN 9999 hb (by decide) (by decide) fun v hv => ⟨by decide, by decide, ?_⟩
    refine gCat_go (f := cnD) (a := r0) (b := [Cond.most (nm[0], "", (v : Int))]) (by rw [List.length_singleton, szL]; omega) ?_
    have hup : 0 < (names (r0 ++ [Cond.most (nm[0], "", (v : Int))])).length := List.length_pos_of_mem (names_mem.mpr ⟨(hnm _ (List.getElem_mem hnp)).2, (nm[0], "", (v : Int)), tests_mem.mpr (by simp), .inl rfl⟩)
    have hrl2 : (r0 ++ [Cond.most (nm[0], "", (v : Int))]).length ≤ 4 := by rw [List.length_append, List.length_singleton]; omega
    have hrm2 : ∀ c ∈ r0 ++ [Cond.most (nm[0], "", (v : Int))], CIn (("" : Str) :: nm) c := fun c hc => by
      rcases List.mem_append.mp hc with z | z
      · exact hrm c z
      · rw [List.mem_singleton.mp z]; exact ⟨List.mem_cons_of_mem _ (List.getElem_mem _), List.mem_cons_self⟩
    clear hrl hrm hnl0 z0
    have hnl1 := names_len (cs := r0 ++ [Cond.most (nm[0], "", (v : Int))])
    generalize r0 ++ [Cond.most (nm[0], "", (v : Int))] = rs at *
    have hrl := hrl2
    have hrm := hrm2

    refine ⟨rs, rfl, okl rs (by omega) hrm, ?_⟩
    have hsub : ∀ w ∈ names rs, w ∈ ("" : Str) :: nm := fun w hw => wsub rs hrm w hw
    generalize names rs = us at *
    refine drawN 2 hb (by decide) (by decide) fun k0 hk0 => ?_
    and_intros
    rw [show (1 : Int) + (k0 : Int) = ((1 + k0 : Nat) : Int) by omega]
    refine rng_go (by omega) ?_
    refine forD_rng (fun k ρ => ∃ (qs : List Cond) (a c : Option (Nat × D)), qs.length ≤ 4 + k ∧ (∀ c ∈ qs, CIn (("" : Str) :: nm) c) ∧ ρ = [some (0, .raw (.ref b)), some (0, .lst (cs.map cnD)), some (0, .lst (nm.map .str)), some (0, .lst (qs.map cnD)), some (0, .lst (us.map .str)), a, c]) ⟨rs, none, none, by omega, hrm, rfl⟩ ?_ ?_
    · rintro k ρ _ hk ⟨qs, a, c, hql, hqm, rfl⟩ N hN
      refine ⟨_, rfl, ?_⟩
      and_intros
      rw [List.length_map, show (qs.length : Int) + 1 = ((qs.length + 1 : Nat) : Int) from rfl]
      refine drawN (qs.length + 1) hb (by omega) (by omega) fun p hp => ?_
      and_intros
      refine gSlL_take (f := cnD) (l := qs) ?_
      rw [List.length_map]
      refine drawN us.length hb hup (by omega) fun i hi => gIx_nat (str_get hi) ?_
      refine ⟨by decide, by decide, gCat_go (f := cnD) (a := qs.take p) (b := [Cond.lacks us[i]]) (by rw [List.length_take, List.length_singleton, szL]; omega) ?_⟩
      and_intros
      refine gSlL_drop (f := cnD) (l := qs) ?_
      refine gCat_go (f := cnD) (a := qs.take p ++ [Cond.lacks us[i]]) (b := qs.drop p) (by rw [List.length_append, List.length_take, List.length_singleton, List.length_drop, szL]; omega) ?_
      and_intros
      refine hN _ ⟨_, _, _, by rw [List.length_append, List.length_append, List.length_take, List.length_singleton, List.length_drop]; omega, fun d hd => ?_, rfl⟩
      rcases List.mem_append.mp hd with z | z
      · rcases List.mem_append.mp z with z | z
        · exact hqm d (List.mem_of_mem_take z)
        · rw [List.mem_singleton.mp z]; exact hsub _ (List.getElem_mem _)
      · exact hqm d (List.mem_of_mem_drop z)
    · rintro ρ ⟨qs, a, c, hql, hqm, rfl⟩
      and_intros
      exact hR qs (by omega) hqm
  · rw [decide_eq_false z0]
    and_intros
    have hup : 0 < (names r0).length := by omega
    generalize r0 = rs at *

    refine ⟨rs, rfl, okl rs (by omega) hrm, ?_⟩
    have hsub : ∀ w ∈ names rs, w ∈ ("" : Str) :: nm := fun w hw => wsub rs hrm w hw
    generalize names rs = us at *
    refine drawN 2 hb (by decide) (by decide) fun k0 hk0 => ?_
    and_intros
    rw [show (1 : Int) + (k0 : Int) = ((1 + k0 : Nat) : Int) by omega]
    refine rng_go (by omega) ?_
    refine forD_rng (fun k ρ => ∃ (qs : List Cond) (a c : Option (Nat × D)), qs.length ≤ 4 + k ∧ (∀ c ∈ qs, CIn (("" : Str) :: nm) c) ∧ ρ = [some (0, .raw (.ref b)), some (0, .lst (cs.map cnD)), some (0, .lst (nm.map .str)), some (0, .lst (qs.map cnD)), some (0, .lst (us.map .str)), a, c]) ⟨rs, none, none, by omega, hrm, rfl⟩ ?_ ?_
    · rintro k ρ _ hk ⟨qs, a, c, hql, hqm, rfl⟩ N hN
      refine ⟨_, rfl, ?_⟩
      and_intros
      rw [List.length_map, show (qs.length : Int) + 1 = ((qs.length + 1 : Nat) : Int) from rfl]
      refine drawN (qs.length + 1) hb (by omega) (by omega) fun p hp => ?_
      and_intros
      refine gSlL_take (f := cnD) (l := qs) ?_
      rw [List.length_map]
      refine drawN us.length hb hup (by omega) fun i hi => gIx_nat (str_get hi) ?_
      refine ⟨by decide, by decide, gCat_go (f := cnD) (a := qs.take p) (b := [Cond.lacks us[i]]) (by rw [List.length_take, List.length_singleton, szL]; omega) ?_⟩
      and_intros
      refine gSlL_drop (f := cnD) (l := qs) ?_
      refine gCat_go (f := cnD) (a := qs.take p ++ [Cond.lacks us[i]]) (b := qs.drop p) (by rw [List.length_append, List.length_take, List.length_singleton, List.length_drop, szL]; omega) ?_
      and_intros
      refine hN _ ⟨_, _, _, by rw [List.length_append, List.length_append, List.length_take, List.length_singleton, List.length_drop]; omega, fun d hd => ?_, rfl⟩
      rcases List.mem_append.mp hd with z | z
      · rcases List.mem_append.mp z with z | z
        · exact hqm d (List.mem_of_mem_take z)
        · rw [List.mem_singleton.mp z]; exact hsub _ (List.getElem_mem _)
      · exact hqm d (List.mem_of_mem_drop z)
    · rintro ρ ⟨qs, a, c, hql, hqm, rfl⟩
      and_intros
      exact hR qs (by omega) hqm
end
end GK

namespace GK
open PySem PySem.Spec PyProof.Rows L2
abbrev sDraw : Stmt := topS 24
section
variable {P : Program} {w : World} {K : PySem.W.Frag} {mg : Str → Option Value} {base : Heap}
theorem scDraw : FnScope ["bag", "size", "turn", "at", "cell", "left", "number", "mixed"] ["bag", "size"] (defScope sDraw) := ⟨rfl, rfl, rfl, by decide +kernel, rfl, by decide +kernel, by decide +kernel⟩
theorem ok_draw {f : Addr} {fd : FuncData} (F : Fun K "_law_draw" "_law_draw" sDraw f fd) (mi : mg "int" = none) (ml : mg "len" = none) : FnOk P w K mg base CX0 1 f fd ["bag", "size"] (spD K m wDraw) := by
  refine F.ok scDraw (fun vs H Q E ⟨B, F, ds, R, w, r, ⟨b, size, hb, e, _⟩, k⟩ => by rw [r.length, e]; rfl) fun cdv A outer s H vs Q E hr ⟨B, F, ds, R, w, r, ⟨b, size, hb, e, h0, hz, hR⟩, k⟩ => ?_
  subst e
  obtain ⟨v0, v1, rfl, r0, r1⟩ : ∃ v0 v1, vs = [v0, v1] ∧ GK.R K F v0 (.raw (.ref b)) ∧ GK.R K F v1 (.int size) := by
    cases r with
    | cons h t =>
      cases t with
      | cons h' t' => cases t'; exact ⟨_, _, rfl, h, h'⟩
  cases r0
  cases r1
  rcases w.bag with e | ⟨b', c, l, ts, cells, left, turn, eB, ht, h1, h2, h3, n1, n2, n3, t0, l0, l63, le⟩
  · rw [e] at hb; cases hb
  rw [eB] at hb
  cases hb
  refine ⟨_, pss_cons (ps_set (i := 2) scDraw.nd rfl (Or.inl rfl) (pe_ix ix_seq (pv 0) pe_int fun _ _ => rfl))
    (pss_cons (ps_asg (pe_op op_add (pv 2) pe_int) (pg_sub (pv 0) pe_int set_list fun _ => rfl))
    (pss_cons (ps_set (i := 3) scDraw.nd rfl (Or.inl rfl) (pe_op op_mod (pe_callTy call_int1 rfl mi (by decide +kernel) (pa_cons (pv 2) pa_nil)) (pe_callB call_len_seq rfl ml PySem.boot_len (pa_cons (pe_ix ix_seq (pv 0) pe_int fun _ _ => rfl) pa_nil))))
    (pss_cons (ps_set (i := 4) scDraw.nd rfl (Or.inl rfl) (pe_ix ix_seq (pe_ix ix_seq (pv 0) pe_int fun _ _ => rfl) (pv 3) fun _ _ => rfl))
    (pss_cons (ps_set (i := 5) scDraw.nd rfl (Or.inl rfl) (pe_ix ix_seq (pv 0) pe_int fun _ _ => rfl))
    (pss_cons (ps_if (pw_and (pt_cmpR op_ge (pv 4) pe_int (nomark _)) (pw_and1 (pt_cmpR op_gt (pe_ix ix_seq (pv 5) (pv 3) fun _ _ => rfl) pe_int (nomark _)))).pt
      (pss_cons (ps_set (i := 6) scDraw.nd rfl (Or.inl rfl) (pe_op op_mod (pe_callTy call_int1 rfl mi (by decide +kernel) (pa_cons (pe_ix ix_seq (pv 5) (pv 3) fun _ _ => rfl) pa_nil)) (pv 1)))
      (pss_cons (ps_asg (pe_op op_fdivW (pe_ix ix_seq (pv 5) (pv 3) fun _ _ => rfl) (pv 1)) (pg_sub (pv 5) (pv 3) set_list fun _ => rfl))
      (pss_one (ps_ret (pv 6))))) pss_nil)
    (pss_cons (ps_set (i := 7) scDraw.nd rfl (Or.inl rfl) (pe_op op_mod (pe_callTy call_int1 rfl mi (by decide +kernel) (pa_cons (pe_op op_add (pe_op op_add (pv 4) (pe_op op_mul pe_int (pv 2))) pe_int) pa_nil)) pe_int))
    (pss_cons (ps_set (i := 7) scDraw.nd rfl (Or.inl rfl) (pe_op op_mod (pe_callTy call_int1 rfl mi (by decide +kernel) (pa_cons (pe_op op_mul (pv 7) (pe_op op_add (pv 7) pe_int)) pa_nil)) pe_int))
    (pss_cons (ps_set (i := 7) scDraw.nd rfl (Or.inl rfl) (pe_op op_mod (pe_callTy call_int1 rfl mi (by decide +kernel) (pa_cons (pe_op op_add (pe_op op_mul (pv 7) (pe_op op_add (pv 7) pe_int)) (pe_op op_mul pe_int (pv 2))) pa_nil)) pe_int))
    (pss_one (ps_ret (pe_op op_mod (pe_callTy call_int1 rfl mi (by decide +kernel) (pa_cons (pe_op op_fdiv (pv 7) pe_int) pa_nil)) (pv 1)))))))))))), ?_⟩
  -- the turn
  refine ⟨_, rfl, .inl ⟨b, _, 2, .int turn, rfl, rfl, SqL.of h1, rfl, ?_⟩⟩
  refine ⟨_, rfl, _, _, rfl, rfl, ?_⟩
  refine ⟨_, rfl, b, _, 2, 2, rfl, rfl, h1, rfl, ?_⟩
  have h1' : upd H b (.lst [.ref c, .ref l, .int (turn + 1)]) b = some (.lst [.ref c, .ref l, .int (turn + 1)]) := upd_same
  have h2' : upd H b (.lst [.ref c, .ref l, .int (turn + 1)]) c = some (.lst (cells.map V.int)) := by rw [upd_ne n1.symm]; exact h2
  have h3' : upd H b (.lst [.ref c, .ref l, .int (turn + 1)]) l = some (.lst (left.map V.int)) := by rw [upd_ne n2.symm]; exact h3
  have hlen : ((cells.map V.int).length : Int) = cells.length := by rw [List.length_map]
  have a0 : 0 ≤ turn % (cells.length : Int) := Int.emod_nonneg _ (by omega)
  have a1 : turn % (cells.length : Int) < cells.length := Int.emod_lt_of_pos _ (by omega)
  obtain ⟨cell, hc⟩ := atI_ints (ns := cells) a0 a1
  obtain ⟨lf, hl⟩ := atI_ints (ns := left) a0 (by rw [le]; exact a1)
  have last : ∀ (H' : Hp) (left' : List Int) (x : Int), (∀ a, a ≠ b → a ≠ l → H' a = H a) → H' b = some (.lst [.ref c, .ref l, .int (turn + 1)]) → H' l = some (.lst (left'.map V.int)) → left'.length = cells.length → Q (.int (x % size)) H' := fun H' left' x q1 q2 q3 q4 =>
    k F H' (.int (x % size)) (.int (x % size)) [] (bag_upd w eB ht h1 h2 h3 n1 n2 n3 l0 l63 q1 q2 (by omega) q3 q4) (Val.atom rfl fun _ => .int _) (fun a h => (by cases h)) List.nodup_nil (hR _ (Int.emod_nonneg _ (by omega)) (Int.emod_lt_of_pos _ h0))
  rw [← hlen] at a0 hc hl
  refine ⟨_, rfl, .inl ⟨_, rfl, _, rfl, .inl ⟨b, _, 0, .ref c, rfl, rfl, SqL.of h1', rfl, c, _, rfl, .inl (SqL.of h2'), _, _, rfl, rfl, (by rw [hlen]; omega), ?_⟩⟩⟩
  refine ⟨_, rfl, .inl ⟨b, _, 0, .ref c, rfl, rfl, SqL.of h1', rfl, _, rfl, .inl ⟨c, _, _, _, rfl, rfl, SqL.of h2', hc, ?_⟩⟩⟩
  refine ⟨_, rfl, .inl ⟨b, _, 1, .ref l, rfl, rfl, SqL.of h1', rfl, ?_⟩⟩
  refine ⟨_, rfl, _, _, rfl, rfl, _, rfl, ?_⟩
  dsimp only
  by_cases hcell : (1000000000000000000 : Int) ≤ cell
  · rw [if_pos (decide_eq_true hcell)]
    refine ⟨_, rfl, _, rfl, .inl ⟨l, _, _, _, rfl, rfl, SqL.of h3', hl, _, _, rfl, rfl, _, rfl, ?_⟩⟩
    dsimp only
    by_cases hlf : (0 : Int) < lf
    · rw [if_pos (decide_eq_true hlf)]
      obtain ⟨_, kx, _, hix, hkl⟩ := atI_at hl a0
      refine ⟨_, rfl, _, rfl, .inl ⟨l, _, _, _, rfl, rfl, SqL.of h3', hl, .inl ⟨_, rfl, _, rfl, _, _, rfl, rfl, h0, ?_⟩⟩⟩
      refine ⟨_, rfl, _, rfl, .inl ⟨l, _, _, _, rfl, rfl, SqL.of h3', hl, _, rfl, _, _, rfl, rfl, ⟨h0, hz⟩, _, rfl, _, rfl, l, _, _, kx, rfl, rfl, h3', hix, ?_⟩⟩
      refine ⟨_, rfl, last _ (left.set kx (lf / size)) _ (fun a q1 q2 => by rw [upd_ne q2, upd_ne q1]) (by rw [upd_ne n2]; exact h1') (by rw [upd_same, List.map_set]) (by rw [List.length_set]; exact le)⟩
    · rw [if_neg (by rw [decide_eq_false hlf]; exact Bool.false_ne_true)]
      refine ⟨_, rfl, _, rfl, _, _, rfl, rfl, .inl ⟨by decide, by decide⟩, _, _, rfl, rfl, _, _, rfl, rfl, .inl ⟨_, rfl, _, _, rfl, rfl, (by dsimp only; decide), ?_⟩⟩
      have small : ∀ x : Int, -(2 ^ 64) < x % 2147483647 ∧ x % 2147483647 < 2 ^ 64 := fun x => by have := Int.emod_nonneg x (b := 2147483647) (by decide); have := Int.emod_lt_of_pos x (b := 2147483647) (by decide); omega
      have small' : ∀ x : Int, -(2 ^ 64) < x % 2147483629 ∧ x % 2147483629 < 2 ^ 64 := fun x => by have := Int.emod_nonneg x (b := 2147483629) (by decide); have := Int.emod_lt_of_pos x (b := 2147483629) (by decide); omega
      refine ⟨_, rfl, _, rfl, _, _, rfl, rfl, _, _, rfl, rfl, .inl (small _), .inl ⟨_, rfl, _, _, rfl, rfl, (by dsimp only; decide), ?_⟩⟩
      refine ⟨_, rfl, _, rfl, _, _, rfl, rfl, _, _, rfl, rfl, .inl (small' _), _, rfl, _, _, rfl, rfl, .inl ⟨by decide, by decide⟩, _, _, rfl, rfl, .inl ⟨_, rfl, _, _, rfl, rfl, (by dsimp only; decide), ?_⟩⟩
      refine ⟨_, rfl, _, _, rfl, rfl, ⟨by decide, by decide⟩, .inl ⟨_, rfl, _, rfl, _, _, rfl, rfl, h0, ?_⟩⟩
      exact last _ left _ (fun a q1 _ => upd_ne q1) h1' h3' le
  · rw [if_neg (by rw [decide_eq_false hcell]; exact Bool.false_ne_true)]
    rw [if_neg Bool.false_ne_true]
    refine ⟨_, rfl, _, rfl, _, _, rfl, rfl, .inl ⟨by decide, by decide⟩, _, _, rfl, rfl, _, _, rfl, rfl, .inl ⟨_, rfl, _, _, rfl, rfl, (by dsimp only; decide), ?_⟩⟩
    have small : ∀ x : Int, -(2 ^ 64) < x % 2147483647 ∧ x % 2147483647 < 2 ^ 64 := fun x => by have := Int.emod_nonneg x (b := 2147483647) (by decide); have := Int.emod_lt_of_pos x (b := 2147483647) (by decide); omega
    have small' : ∀ x : Int, -(2 ^ 64) < x % 2147483629 ∧ x % 2147483629 < 2 ^ 64 := fun x => by have := Int.emod_nonneg x (b := 2147483629) (by decide); have := Int.emod_lt_of_pos x (b := 2147483629) (by decide); omega
    refine ⟨_, rfl, _, rfl, _, _, rfl, rfl, _, _, rfl, rfl, .inl (small _), .inl ⟨_, rfl, _, _, rfl, rfl, (by dsimp only; decide), ?_⟩⟩
    refine ⟨_, rfl, _, rfl, _, _, rfl, rfl, _, _, rfl, rfl, .inl (small' _), _, rfl, _, _, rfl, rfl, .inl ⟨by decide, by decide⟩, _, _, rfl, rfl, .inl ⟨_, rfl, _, _, rfl, rfl, (by dsimp only; decide), ?_⟩⟩
    refine ⟨_, rfl, _, _, rfl, rfl, ⟨by decide, by decide⟩, .inl ⟨_, rfl, _, rfl, _, _, rfl, rfl, h0, ?_⟩⟩
    exact last _ left _ (fun a q1 _ => upd_ne q1) h1' h3' le
end
end GK

namespace GK
open PySem PySem.Spec PyProof.Rows L2
abbrev sBag : Stmt := topS 23
section
variable {P : Program} {w : World} {K : PySem.W.Frag} {mg : Str → Option Value} {base : Heap}
theorem scBag : FnScope ["script", "cells", "cell"] ["script"] (defScope sBag) := ⟨rfl, rfl, rfl, by decide +kernel, rfl, by decide +kernel, by decide +kernel⟩
theorem ok_bag {f : Addr} {fd : FuncData} (F : Fun K "_law_bag" "_law_bag" sBag f fd) (mi : mg "int" = none) (ml : mg "len" = none) (mL : mg "list" = none) : FnOk P w K mg base CX0 1 f fd ["script"] (spBag K) := by
  refine F.ok scBag (fun vs H Q E ⟨a, ns, e, _⟩ => by rw [e]; rfl) fun cdv A outer s H vs Q E hr ⟨a, ns, e, hs, hlen, k⟩ => ?_
  subst e
  refine ⟨_, pss_cons (ps_setLc (i := 1) (own := [("cell", 2)]) rfl scBag.nd rfl rfl (sw_true rfl rfl rfl rfl) (pi_list (pe_slice sl_list (pv 0) po_none (po_some pe_int))) (blk_of ["script", "cells", "cell"] (defScope sBag) rfl (by decide +kernel) (by decide +kernel) (by decide +kernel) (by decide +kernel))
      (fun _ _ _ _ _ => pg_name (i := 2) scBag.nd rfl (Or.inl rfl) (Or.inr rfl)) (fun _ _ _ _ _ => pts_nil) (fun _ _ _ _ _ => pe_callTy call_int1 rfl mi (by decide +kernel) (pa_cons (pv 2) pa_nil)))
    (pss_cons (ps_if (pt_cmpR op_eq (pe_callB call_len_seq rfl ml PySem.boot_len (pa_cons (pv 1) pa_nil)) pe_int (nomark _)) (pss_one (ps_set (i := 1) scBag.nd rfl (Or.inl rfl) (pe_lst (pa_cons pe_int pa_nil)))) pss_nil)
    (pss_one (ps_ret (pe_lst (pa_cons (pv 1) (pa_cons (pe_callTy call_list_of rfl mL (by decide +kernel) (pa_cons (pv 1) pa_nil)) (pa_cons pe_int pa_nil))))))), ?_⟩
  refine ⟨_, rfl, 63, rfl, a, _, rfl, hs, fun p hp => ?_⟩
  obtain ⟨ms, em, lm⟩ := cut_ints ns Option.none (some 63)
  rw [em]
  have e0 : Ext H (upd H p (.lst (ms.map V.int))) := Ext.refl.put hp
  refine ⟨p, rfl, ⟨_, SqL.of upd_same⟩, fun Dc hD => ?_⟩
  have hpD : p ≠ Dc := fun z => by rw [← z, upd_same] at hD; cases hD
  have hD0 : H Dc = Option.none := e0.none hD
  refine lc_list (fun i H' => ∃ acc : List Int, acc.length = i ∧ H' = upd (upd H p (.lst (ms.map V.int))) Dc (.lst (acc.map V.int))) ⟨[], rfl, rfl⟩ (fun i H' _ ⟨acc, _, eH⟩ => SqL.of (by rw [eH, upd_ne hpD]; exact upd_same)) ?_ ?_
  · rintro i x H' hx ⟨acc, la, rfl⟩
    have hi : i < ms.length := by
      have := (List.getElem?_eq_some_iff.mp hx).1
      rw [List.length_map] at this; exact this
    obtain ⟨m, rfl⟩ : ∃ m, x = V.int m := by
      rw [List.getElem?_map, List.getElem?_eq_getElem hi] at hx
      exact ⟨_, (Option.some.inj hx).symm⟩
    have hsz : acc.length < sizeLine := by rw [la]; exact Nat.lt_of_lt_of_le hi (by have : sizeLine = 16777216 := by decide
                                                                                    omega)
    refine ⟨rfl, ?_⟩
    unfold tYes
    dsimp only
    rw [if_pos rfl]
    refine ⟨_, rfl, .inl ⟨m, rfl, _, upd_same, by rw [List.length_map]; exact hsz, acc ++ [m], by rw [List.length_append, la]; rfl, ?_⟩⟩
    rw [upd_upd, List.map_append]; rfl
  · rintro H' ⟨acc, la, rfl⟩
    rw [List.length_map] at la
    have e1 : Ext H (upd (upd H p (.lst (ms.map V.int))) Dc (.lst (acc.map V.int))) := e0.put hD0
    have a63 : acc.length ≤ 63 := by omega
    -- the end, from the cells at q
    have fin : ∀ (H1 : Hp) (q : Addr) (cells : List Int), Ext H H1 → H q = Option.none → H1 q = some (.lst (cells.map V.int)) → 0 < cells.length → cells.length ≤ 63 → ∀ l b, H1 l = Option.none → upd H1 l (.lst (cells.map V.int)) b = Option.none → Q (.ref b) (upd (upd H1 l (.lst (cells.map V.int))) b (.lst [.ref q, .ref l, .int 0])) := fun H1 q cells ex hq h1 c0 c63 l b hl hb => by
      have hlq : q ≠ l := fun z => by rw [z, hl] at h1; cases h1
      have hbl : b ≠ l := fun z => by rw [z, upd_same] at hb; cases hb
      have hb1 : H1 b = Option.none := by rw [upd_ne hbl] at hb; exact hb
      have hbq : b ≠ q := fun z => by rw [z, h1] at hb1; cases hb1
      have ee := (ex.put (xs := cells.map V.int) (ex.none hl)).put (xs := [.ref q, .ref l, .int 0]) (ex.none hb1)
      exact k b q l cells cells _ (ex.none hb1) hbq hbl hlq c0 c63 rfl ee.1 ee.2 upd_same (by rw [upd_ne hbq.symm, upd_ne hlq]; exact h1) (by rw [upd_ne hbl.symm]; exact upd_same)
    refine ⟨_, rfl, Dc, _, rfl, .inl (SqL.of upd_same), ?_⟩
    refine ⟨rfl, _, rfl, ?_⟩
    dsimp only
    by_cases h0 : acc.length = 0
    · rw [if_pos (decide_eq_true (by rw [List.length_map, h0]; rfl))]
      refine ⟨by show 1 ≤ sizeLine; decide, fun q hq => ?_⟩
      have ex2 := e1.put (xs := [V.int 0]) (e1.none hq)
      refine ⟨_, rfl, _, rfl, q, _, rfl, .inl (SqL.of upd_same), fun l hl => ⟨by show 3 ≤ sizeLine; decide, fun b hb => ?_⟩⟩
      exact fin _ q [0] ex2 (e1.none hq) upd_same (by decide) (by decide) l b hl hb
    · rw [if_neg (by
        rw [decide_eq_false]
        · exact Bool.false_ne_true
        · intro z
          have := V.int.inj z
          rw [List.length_map] at this
          omega)]
      refine ⟨_, rfl, _, rfl, Dc, _, rfl, .inl (SqL.of upd_same), fun l hl => ⟨by show 3 ≤ sizeLine; decide, fun b hb => ?_⟩⟩
      exact fin _ Dc acc e1 hD0 upd_same (by omega) a63 l b hl hb
end
end GK

namespace GK
open PySem PySem.Spec PyProof.Rows L2
open N2 N7
local macro_rules | `(tactic| and_intros) => `(tactic| try simp only [ownLst, ownObj, mTake, mOf, fAndV, fOrV, fArgs, fCons, fNil, fVar_0, fVar_s, fUn, fBin, fBool, startE, envOf, slot, gSeq, frzE, gComp, gCompD, wipe_nil, wipe_cons, List.map_cons, List.map_nil, List.cons_append, List.nil_append, List.append_nil, true_and, and_true, List.set_cons_zero, List.set_cons_succ, List.length_cons, List.length_nil, List.replicate_succ, List.replicate_zero, Nat.reduceSub, Nat.reduceAdd, Nat.reduceLT, DEnds.fn, bOf_bl, eq_self, reduceIte, Bool.false_eq_true, gNotV_bl, Bool.not_true, Bool.not_false, g2I_int, g2I0_int, g1I_int, gLen_lst, gLen_tup, gInt_int, gMax2_int, gMin2_int, gIsN_non, gIsN_obj, gIsN_dT, gIsN_dK, gIsN_int, xsOf_lst, tsOf_tup, gIx_t0, gIx_t1, gIx_l0, gIx_l1, gIx_l2, gEqA_int, gEqA_str, gEqA_bl, gTup, gLst, Option.isSome_some, Bool.false_xor, Bool.true_xor, gFor, gNegI, gEqA_no, gIsN_lst, gIsN_tup, gIx_t2, Bool.not_not, dnE, dnL, decide_true, decide_false, gListL_lst, gTupL_lst, gListU_lst, gListU_tup, isi_tup_tup, isi_tup_lst, isi_tup_str, isi_tup_int, isi_tup_bl, isi_tup_dK, isi_lst_tup, isi_lst_lst, isi_lst_str, isi_lst_int, isi_lst_bl, isi_lst_dK, isi_str_tup, isi_str_lst, isi_str_str, isi_str_int, isi_str_bl, isi_str_dK, isi_int_tup, isi_int_lst, isi_int_str, isi_int_int, isi_int_bl, isi_int_dK, isi_bl_tup, isi_bl_lst, isi_bl_str, isi_bl_int, isi_bl_bl, isi_bl_dK, isi_non_tup, isi_non_lst, isi_non_str, isi_non_int, isi_non_bl, isi_non_dK, isi_dK_tup, isi_dK_lst, isi_dK_str, isi_dK_int, isi_dK_bl, isi_dK_dK, iOf_int, graphD, edD, optD, pvD, lvD, lvI, trD, Bool.xor_false, Bool.not_false, Bool.not_true, iOf_int, graphD, edD, optD, pvD, lvD, lvI, trD, Bool.xor_false, Bool.not_false, Bool.not_true, gIxT_1, ts_0, ts_1, ts_2, ts_3, lk_0, lk_1, sl_ts, sl_lk, cn_most, cn_lack, d_lm, d_ml, gSlS_str, gCatS_str, gRepS_str, gFind_str, prS, gIsN_str, gLenD_sT, gLenD_pT, gIsN_sT, gIsN_pT, gIsN_smD, emD, Bool.xor_false, gLenD_dK, gLenD_dT, gIsB_bl, papD, Bool.true_and, Bool.false_and, Bool.and_true, Bool.or_false, Bool.or_true, d_rl, d_sl, d_sr, d_lr, tq_0, tq_1])
section
variable {P : Program} {w : World} {K : PySem.W.Frag} {mg : Str → Option Value} {base : Heap}
abbrev s_law : Stmt := topS 47
theorem sc_law : FnScope ["script", "bag", "names", "top", "student", "conditions", "words", "at", "x", "y", "even", "short", "rows", "row", "ring", "test"] ["script"] (defScope s_law) := ⟨rfl, rfl, rfl, by decide +kernel, rfl, by decide +kernel, by decide +kernel⟩
theorem ok_law {f fB : Addr} {fd fdB : FuncData} (F : Fun K "law" "law" s_law f fd) (T : Bi mg) (FB : FnOk P w K mg base CX0 1 fB fdB ["script"] (spBag K)) (mB : mg "_law_bag" = some (.ref fB)) (kB : PySem.W.keepIn K (.ref fB) = true) (bB : Binds K fdB ["script"] []) (c_law_alternative : Cal P w K mg base "_law_alternative" 3 ["bag", "names", "top", "student"] (.own 0) [] w_law_alternative) (c_law_asked : Cal P w K mg base "_law_asked" 7 ["conditions", "papers"] (.own 0) [] w_law_asked) (c_law_between : Cal P w K mg base "_law_between" 1 ["student", "x", "y", "slack"] (.own 0) [] w_law_between) (c_law_draw : Cal P w K mg base "_law_draw" 1 ["bag", "size"] (.own 0) [] wDraw) (c_law_judged : Cal P w K mg base "_law_judged" 4 ["conditions", "pool", "paper"] (.own 0) [] w_law_judged) (c_law_more_lacks : Cal P w K mg base "_law_more_lacks" 2 ["bag", "conditions", "names"] (.own 0) [] w_law_more_lacks) (c_law_names : Cal P w K mg base "_law_names" 3 ["bag", "count"] (.own 0) [] w_law_names) (c_law_papers : Cal P w K mg base "_law_papers" 3 ["bag", "conditions", "names"] (.own 0) [] w_law_papers) (c_law_pool : Cal P w K mg base "_law_pool" 2 ["conditions"] (.own 0) [] w_law_pool) (c_law_shortest : Cal P w K mg base "_law_shortest" 1 ["pool"] (.own 0) [] w_law_shortest) (c_law_student : Cal P w K mg base "_law_student" 2 ["bag", "names", "top"] (.own 0) [] w_law_student) :
    FnOk P w K mg base CX0 8 f fd ["script"] (spLaw K) := by
  refine F.ok sc_law (fun vs H Q E ⟨a, ns, e, _⟩ => by rw [e]; rfl) fun cdv A outer s H vs Q E hr ⟨a, ns, e, hs, hlen, hO, hq⟩ => ?_
  subst e
  refine ⟨_, pss_cons (ps_set (i := 1) sc_law.nd rfl (Or.inl rfl) (pe_call FB (hr.mono (by decide)) rfl mB kB bB .nil pass0 (pa_cons (pv 0) pa_nil))) (law_rest fun B => (ds_cons (ds_setM 2 0 sc_law.nd rfl (by first | exact Or.inl rfl | exact Or.inr rfl) (by decide) (dm_of (de_C c_law_names hr (da_cons (m := .own 0) (de_v 1) (da_cons (m := .own 0) (de_add (m := .own 0) (de_int (m := .rd)) (de_C c_law_draw hr (da_cons (m := .own 0) (de_v 1) (da_cons (m := .own 0) (de_int (m := .own 0)) da_nil)))) da_nil)))))
(ds_cons (ds_setM 3 0 sc_law.nd rfl (by first | exact Or.inl rfl | exact Or.inr rfl) (by decide) (dm_of (de_at (de_frz (de_lst 0 (da_cons (m := .own 0) (de_int (m := .own 0)) (da_cons (m := .own 0) (de_int (m := .own 0)) (da_cons (m := .own 0) (de_int (m := .own 0)) da_nil))))) (de_C c_law_draw hr (da_cons (m := .own 0) (de_v 1) (da_cons (m := .own 0) (de_int (m := .own 0)) da_nil))))))
(ds_cons (ds_setM 4 0 sc_law.nd rfl (by first | exact Or.inl rfl | exact Or.inr rfl) (by decide) (dm_of (de_C c_law_student hr (da_cons (m := .own 0) (de_v 1) (da_cons (m := .own 0) (de_v 2) (da_cons (m := .own 0) (de_v 3) da_nil))))))
(ds_cons (ds_setM 5 0 sc_law.nd rfl (by first | exact Or.inl rfl | exact Or.inr rfl) (by decide) (dm_of (de_C c_law_alternative hr (da_cons (m := .own 0) (de_v 1) (da_cons (m := .own 0) (de_v 2) (da_cons (m := .own 0) (de_v 3) (da_cons (m := .own 0) (de_v 4) da_nil)))))))
(ds_cons (ds_setM 6 0 sc_law.nd rfl (by first | exact Or.inl rfl | exact Or.inr rfl) (by decide) (dm_of (de_frz (de_cat (de_frz (de_lst 0 (da_cons (m := .own 0) (de_str (m := .own 0)) da_nil))) (de_v 2)))))
(ds_cons (ds_setM 7 0 sc_law.nd rfl (by first | exact Or.inl rfl | exact Or.inr rfl) (by decide) (dm_of (de_C c_law_draw hr (da_cons (m := .own 0) (de_v 1) (da_cons (m := .own 0) (de_len (m := .own 0) T.len_ (de_v 6)) da_nil)))))
(ds_cons (ds_setM 8 0 sc_law.nd rfl (by first | exact Or.inl rfl | exact Or.inr rfl) (by decide) (dm_of (de_at (de_v 6) (de_v 7))))
(ds_cons (ds_setM 9 0 sc_law.nd rfl (by first | exact Or.inl rfl | exact Or.inr rfl) (by decide) (dm_of (de_at (de_v 6) (de_mod (m := .rd) (de_int' (m := .rd) T.int_ (de_add (m := .rd) (de_add (m := .rd) (de_v 7) (de_int (m := .rd))) (de_C c_law_draw hr (da_cons (m := .own 0) (de_v 1) (da_cons (m := .own 0) (de_sub (m := .own 0) (de_len (m := .rd) T.len_ (de_v 6)) (de_int (m := .rd))) da_nil))))) (de_len (m := .rd) T.len_ (de_v 6))))))
(ds_cons (ds_if (dt_eq (de_sub (m := .rd) (de_dget (hr.u 1) (de_v 4) (de_v 8)) (de_dget (hr.u 1) (de_v 4) (de_v 9))) (de_int (m := .rd)))
(ds_cons (ds_setM 8 0 sc_law.nd rfl (by first | exact Or.inl rfl | exact Or.inr rfl) (by decide) (dm_of (de_v 9)))
(ds_one (ds_setM 9 0 sc_law.nd rfl (by first | exact Or.inl rfl | exact Or.inr rfl) (by decide) (dm_of (de_at (de_v 6) (de_v 7))))))
ds_nil)
(ds_cons (ds_setM 10 0 sc_law.nd rfl (by first | exact Or.inl rfl | exact Or.inr rfl) (by decide) (dm_of (de_frz (de_lst 0 (da_cons (m := .own 0) (de_C c_law_between hr (da_cons (m := .own 0) (de_v 4) (da_cons (m := .own 0) (de_v 8) (da_cons (m := .own 0) (de_v 9) (da_cons (m := .own 0) (de_int (m := .own 0)) da_nil))))) (da_cons (m := .own 0) (de_C c_law_between hr (da_cons (m := .own 0) (de_v 4) (da_cons (m := .own 0) (de_v 9) (da_cons (m := .own 0) (de_v 8) (da_cons (m := .own 0) (de_int (m := .own 0)) da_nil))))) da_nil))))))
(ds_cons (ds_setM 11 0 sc_law.nd rfl (by first | exact Or.inl rfl | exact Or.inr rfl) (by decide) (dm_of (de_frz (de_lst 0 (da_cons (m := .own 0) (de_C c_law_between hr (da_cons (m := .own 0) (de_v 4) (da_cons (m := .own 0) (de_v 8) (da_cons (m := .own 0) (de_v 9) (da_cons (m := .own 0) (de_int (m := .own 0)) da_nil))))) (da_cons (m := .own 0) (de_C c_law_between hr (da_cons (m := .own 0) (de_v 4) (da_cons (m := .own 0) (de_v 9) (da_cons (m := .own 0) (de_v 8) (da_cons (m := .own 0) (de_sub (m := .own 0) (de_int (m := .rd)) (de_int (m := .rd))) da_nil))))) da_nil))))))
(ds_cons (ds_setM 12 0 sc_law.nd rfl (by first | exact Or.inl rfl | exact Or.inr rfl) (by decide) (dm_of (de_frz (de_lst 0 (da_cons (m := .own 0) (de_v 5) (da_cons (m := .own 0) (de_v 10) (da_cons (m := .own 0) (de_frz (de_cat (de_v 11) (de_frz (de_slL (de_v 5) do_none (do_some (de_int (m := .rd))))))) (da_cons (m := .own 0) (de_C c_law_more_lacks hr (da_cons (m := .own 0) (de_v 1) (da_cons (m := .own 0) (de_v 5) (da_cons (m := .own 0) (de_v 2) da_nil)))) da_nil))))))))
(ds_cons (ds_for PassesOwn.never rfl (di_list (de_v 12)) (dg_name 13 sc_law.nd rfl (by first | exact Or.inl rfl | exact Or.inr rfl) (by decide))
(ds_one (ds_if (dt_not (dt_val (de_C c_law_asked hr (da_cons (m := .own 0) (de_v 13) (da_cons (m := .own 0) (de_C c_law_papers hr (da_cons (m := .own 0) (de_v 1) (da_cons (m := .own 0) (de_v 13) (da_cons (m := .own 0) (de_v 2) da_nil)))) da_nil)))))
(ds_one (ds_retM (dm_of (de_bl (m := .own 0)))))
ds_nil)))
(ds_cons (ds_for PassesOwn.never rfl (di_list (de_frz (de_lst 0 (da_cons (m := .own 0) (de_v 10) (da_cons (m := .own 0) (de_v 11) da_nil))))) (dg_name 13 sc_law.nd rfl (by first | exact Or.inl rfl | exact Or.inr rfl) (by decide))
(ds_one (ds_if (dt_not (dt_val (de_C c_law_judged hr (da_cons (m := .own 0) (de_v 13) (da_cons (m := .own 0) (de_C c_law_pool hr (da_cons (m := .own 0) (de_v 13) da_nil)) (da_cons (m := .own 0) (de_tup (da_cons (m := .own 0) (de_str (m := .own 0)) (da_cons (m := .own 0) (de_v 13) da_nil))) da_nil))))))
(ds_one (ds_retM (dm_of (de_bl (m := .own 0)))))
ds_nil)))
(ds_cons (ds_setM 14 0 sc_law.nd rfl (by first | exact Or.inl rfl | exact Or.inr rfl) (by decide) (dm_of (de_C c_law_shortest hr (da_cons (m := .own 0) (de_C c_law_pool hr (da_cons (m := .own 0) (de_v 5) da_nil)) da_nil))))
(ds_cons (ds_if (dt_bool (dw_or (dt_is (de_v 14) (de_non (m := .rd))) (dw_or (dt_lt (de_len (m := .rd) T.len_ (de_v 14)) (de_int (m := .rd))) (dw_or (dt_gt (de_add (m := .rd) (de_at (de_at (de_v 14) (de_int (m := .rd))) (de_int (m := .rd))) (de_at (de_at (de_v 14) (de_int (m := .rd))) (de_int (m := .rd)))) (de_int (m := .rd))) (dw_or1 (dt_lt (de_add (m := .rd) (de_at (de_at (de_v 14) (de_int (m := .rd))) (de_int (m := .rd))) (de_at (de_at (de_v 14) (de_int (m := .rd))) (de_int (m := .rd)))) (de_sub (m := .rd) (de_int (m := .rd)) (de_int (m := .rd)))))))))
(ds_one (ds_retM (dm_of (de_bl (m := .own 0)))))
ds_nil)
(ds_cons (ds_setM 13 0 sc_law.nd rfl (by first | exact Or.inl rfl | exact Or.inr rfl) (by decide) (dm_of (de_frz (de_cat (de_frz (de_lc (own := [("test", 15)]) 0 rfl sc_law.nd (di_list (de_v 14)) (blk_of ["script", "bag", "names", "top", "student", "conditions", "words", "at", "x", "y", "even", "short", "rows", "row", "ring", "test"] (defScope s_law) rfl (by decide +kernel) (by decide +kernel) (by decide +kernel) (by decide +kernel)) (dgc_name 15 sc_law.nd rfl) (hol_cons rfl (fun _ _ => rfl) hol_nil) (fun _ _ _ _ _ => dts_one (dt_inD (hr.u 65) (de_v 15) (de_v 5))) (fun _ _ _ _ _ => (de_v 15)))) (de_frz (de_lst 0 (da_cons (m := .own 0) (de_tup (da_cons (m := .own 0) (de_str (m := .own 0)) (da_cons (m := .own 0) (de_at (de_at (de_v 14) (de_int (m := .rd))) (de_int (m := .rd))) (da_cons (m := .own 0) (de_at (de_at (de_v 14) (de_int (m := .rd))) (de_int (m := .rd))) (da_cons (m := .own 0) (de_add (m := .own 0) (de_at (de_at (de_v 14) (de_int (m := .rd))) (de_int (m := .rd))) (de_at (de_at (de_v 14) (de_int (m := .rd))) (de_int (m := .rd)))) da_nil))))) da_nil)))))))
(ds_one (ds_retM (dm_of (de_C c_law_asked hr (da_cons (m := .own 0) (de_v 13) (da_cons (m := .own 0) (de_frz (de_lst 0 (da_cons (m := .own 0) (de_tup (da_cons (m := .own 0) (de_str (m := .own 0)) (da_cons (m := .own 0) (de_v 14) da_nil))) (da_cons (m := .own 0) (de_tup (da_cons (m := .own 0) (de_str (m := .own 0)) (da_cons (m := .own 0) (de_frz (de_cat (de_frz (de_lst 0 (da_cons (m := .own 0) (de_at (de_v 13) (de_neg (m := .rd) (de_int (m := .rd)))) da_nil))) (de_frz (de_slL (de_v 14) (do_some (de_int (m := .rd))) do_none)))) da_nil))) da_nil)))) da_nil)))))))))))))))))))))))), ?_⟩
  refine ⟨_, rfl, a, ns, rfl, hs, hlen, fun b c l cells left H' nb n1 n2 n3 l0 l63 le hk hlk h1 h2 h3 => ?_⟩
  refine fun N hN => law_start (n := 14) hO hN nb n1 n2 n3 l0 l63 le hlk h1 h2 h3 (fun B hb => ?_) (fun H2 => hq H2)
  and_intros
  refine drawN 4 hb (by decide) (by decide) fun q hq => ?_
  and_intros
  refine ⟨b, 1 + q, hb, rfl, by omega, fun nm hnl hnm => ?_⟩
  and_intros
  refine ⟨by decide, drawN 3 hb (by decide) (by decide) fun j hj => ?_⟩
  obtain ⟨top, ht, ht2⟩ : ∃ top : Nat, [D.int 6, D.int 60, D.int 9999][j]? = some (natD top) ∧ top ≤ 9999 := by
    match j, hj with
    | 0, _ => exact ⟨6, rfl, by decide⟩
    | 1, _ => exact ⟨60, rfl, by decide⟩
    | 2, _ => exact ⟨9999, rfl, by decide⟩
  refine gIx_nat ht ?_
  have hn1 : nm ≠ [] := fun z => by rw [z, List.length_nil] at hnl; omega
  have hn0 : ∀ n ∈ nm, n ≠ "" := fun n hn => (hnm n hn).2.1
  refine ⟨b, nm, top, hb, rfl, hn0, by omega, ht2, fun st hst => ?_⟩
  refine ⟨b, nm, top, st, hb, rfl, hn1, by omega, ht2, hst, fun cs hcl hci => ?_⟩
  and_intros
  refine ⟨by decide, gCat_go (f := D.str) (a := [("" : Str)]) (b := nm) (by rw [List.length_singleton, szL]; omega) ?_⟩
  and_intros
  have okw : ∀ w ∈ ("" : Str) :: nm, strOk w = true := fun w hw => by
    rcases List.mem_cons.mp hw with e | hw
    · rw [e]; decide +kernel
    · exact (hnm w hw).1
  have okl : ∀ ks : List Cond, ks.length ≤ 10 → (∀ c ∈ ks, CIn (("" : Str) :: nm) c) → CsOk ks := fun ks h1 h2 => ⟨h1, fun c hc => by
    have := h2 c hc
    cases c with
    | lacks n => exact okw n this
    | most s => exact ⟨okw _ this.1, okw _ this.2⟩⟩
  have hcs : CsOk cs := okl cs (by omega) hci
  rw [List.length_map]
  refine drawN (nm.length + 1) hb (by omega) (by omega) fun p0 hp0 => ?_
  have hp1 : p0 < (("" : Str) :: nm).length := hp0
  refine gIx_nat (map_get (f := D.str) (l := ("" : Str) :: nm) hp1) ?_
  and_intros
  rw [show ((nm.length + 1 : Nat) : Int) - 1 = ((nm.length : Nat) : Int) by omega]
  refine drawN nm.length hb (by omega) (by omega) fun d0 hd0 => ?_
  and_intros
  refine ⟨by omega, ?_⟩
  rw [show ((p0 : Int) + 1 + (d0 : Int)) % ((nm.length + 1 : Nat) : Int) = (((p0 + 1 + d0) % (nm.length + 1) : Nat) : Int) from rfl]
  have hp2 : (p0 + 1 + d0) % (nm.length + 1) < (("" : Str) :: nm).length := Nat.mod_lt _ (by omega)
  refine gIx_nat (map_get (f := D.str) (l := ("" : Str) :: nm) hp2) ?_
  have m1 : (("" : Str) :: nm)[p0] ∈ ("" : Str) :: nm := List.getElem_mem _
  have m2 : (("" : Str) :: nm)[(p0 + 1 + d0) % (nm.length + 1)] ∈ ("" : Str) :: nm := List.getElem_mem _
  have hg := map_get (f := D.str) (l := ("" : Str) :: nm) hp1
  generalize (("" : Str) :: nm)[(p0 + 1 + d0) % (nm.length + 1)] = y0 at *
  generalize (("" : Str) :: nm)[p0] = x0 at *
  refine sget_go (hst.get m1).1 (sget_go (hst.get m2).1 ?_)
  and_intros
  by_cases z9 : val st x0 - val st y0 = 9999
  · rw [decide_eq_true z9]
    and_intros
    refine gIx_nat hg ?_
    have hxx := m2
    have hyy := m1
    clear z9
    generalize y0 = xx at *
    generalize x0 = yy at *

    refine ⟨nm, st, xx, yy, 0, rfl, hst, hxx, hyy, fun e1 => ?_⟩
    refine ⟨nm, st, yy, xx, 0, rfl, hst, hyy, hxx, fun e2 => ⟨by decide, ?_⟩⟩
    refine ⟨nm, st, xx, yy, 0, rfl, hst, hxx, hyy, fun e3 => ?_⟩
    refine ⟨nm, st, yy, xx, _, rfl, hst, hyy, hxx, fun e4 => ⟨by decide, ?_⟩⟩
    refine gSlL_take (k := 2) (f := cnD) (l := cs) (gCat_go (f := cnD) (a := [Cond.most (xx, yy, e3), Cond.most (yy, xx, e4)]) (b := cs.take 2) (by rw [List.length_take, szL]; show 2 + _ ≤ _; omega) ?_)
    refine ⟨b, cs, nm, hb, rfl, hci, fun n hn => ⟨(hnm n hn).1, (hnm n hn).2.1⟩, hn1, by omega, fun ms hml hmi => ⟨by decide, ?_⟩⟩
    have hrows : ∀ l ∈ [cs, [Cond.most (xx, yy, e1), Cond.most (yy, xx, e2)], [Cond.most (xx, yy, e3), Cond.most (yy, xx, e4)] ++ cs.take 2, ms], CsOk l := fun l hl => by
      simp only [List.mem_cons, List.not_mem_nil, or_false] at hl
      have p2 : ∀ u v, ∀ c ∈ [Cond.most (xx, yy, u), Cond.most (yy, xx, v)], CIn (("" : Str) :: nm) c := fun u v c hc => by
        simp only [List.mem_cons, List.not_mem_nil, or_false] at hc
        rcases hc with rfl | rfl
        · exact ⟨hxx, hyy⟩
        · exact ⟨hyy, hxx⟩
      rcases hl with rfl | rfl | rfl | rfl
      · exact okl _ (by omega) hci
      · exact okl _ (by show 2 ≤ 10; decide) (p2 _ _)
      · exact okl _ (by rw [List.length_append, List.length_take]; show 2 + _ ≤ 10; omega) fun c hc => (List.mem_append.mp hc).elim (p2 _ _ c) fun h => hci c (List.mem_of_mem_take h)
      · exact okl _ (by omega) hmi
    have hev : CsOk [Cond.most (xx, yy, e1), Cond.most (yy, xx, e2)] := hrows _ (by simp)
    have hsh : CsOk [Cond.most (xx, yy, e3), Cond.most (yy, xx, e4)] := okl _ (by show 2 ≤ 10; decide) fun c hc => by
      simp only [List.mem_cons, List.not_mem_nil, or_false] at hc
      rcases hc with rfl | rfl
      · exact ⟨hxx, hyy⟩
      · exact ⟨hyy, hxx⟩
    refine forD_map (ι := fun l : List Cond => D.lst (l.map cnD)) (l := [cs, [Cond.most (xx, yy, e1), Cond.most (yy, xx, e2)], [Cond.most (xx, yy, e3), Cond.most (yy, xx, e4)] ++ cs.take 2, ms]) (fun ls ρ => ∃ (w v x : Option (Nat × D)), (∀ l ∈ ls, CsOk l) ∧ ρ = [some (0, .raw (.ref a)), some (0, .raw (.ref b)), some (0, .lst (nm.map .str)), some (0, natD top), some (0, sT .int st), some (0, .lst (cs.map cnD)), w, some (0, natD p0), some (0, .str xx), some (0, .str yy), some (0, .lst ([Cond.most (xx, yy, e1), Cond.most (yy, xx, e2)].map cnD)), some (0, .lst ([Cond.most (xx, yy, e3), Cond.most (yy, xx, e4)].map cnD)), v, x, none, none]) ⟨_, _, none, hrows, rfl⟩ ?_ ?_
    · rintro l ls ρ ⟨w, v, x, hls, rfl⟩ N hN
      refine ⟨_, rfl, ?_⟩
      have hl := hls l List.mem_cons_self
      and_intros
      refine ⟨b, l, nm, hb, rfl, hl, hn1, by omega, fun n hn => ⟨(hnm n hn).1, (hnm n hn).2.2⟩, fun pp hp1 hp2 => ?_⟩
      refine ⟨l, pp, rfl, hl, hp1, hp2, ?_⟩
      and_intros
      exact hN _ ⟨_, _, _, fun m hm => hls m (List.mem_cons_of_mem _ hm), rfl⟩
    rintro ρ ⟨w, v, x, _, rfl⟩
    and_intros
    refine ⟨by decide, ?_⟩
    refine forD_map (ι := fun l : List Tst => D.lst (l.map tsD)) (l := [[(xx, yy, e1), (yy, xx, e2)], [(xx, yy, e3), (yy, xx, e4)]]) (fun ls ρ => ∃ (x : Option (Nat × D)), (∀ l ∈ ls, CsOk (l.map Cond.most) ∧ l.length ≤ 2) ∧ ρ = [some (0, .raw (.ref a)), some (0, .raw (.ref b)), some (0, .lst (nm.map .str)), some (0, natD top), some (0, sT .int st), some (0, .lst (cs.map cnD)), w, some (0, natD p0), some (0, .str xx), some (0, .str yy), some (0, .lst ([Cond.most (xx, yy, e1), Cond.most (yy, xx, e2)].map cnD)), some (0, .lst ([Cond.most (xx, yy, e3), Cond.most (yy, xx, e4)].map cnD)), v, x, none, none]) ⟨_, fun l hl => ?_, rfl⟩ ?_ ?_
    · simp only [List.mem_cons, List.not_mem_nil, or_false] at hl
      rcases hl with rfl | rfl
      · exact ⟨hev, Nat.le_refl 2⟩
      · exact ⟨hsh, Nat.le_refl 2⟩
    · rintro l ls ρ ⟨x, hls, rfl⟩ N hN
      refine ⟨_, rfl, ?_⟩
      obtain ⟨hl, hl2⟩ := hls l List.mem_cons_self
      and_intros
      refine ⟨l.map Cond.most, by rw [List.map_map]; rfl, hl, ⟨by decide, ?_⟩⟩
      refine ⟨l.map Cond.most, .ring "ring" l, by rw [List.map_map]; rfl, hl, ⟨.inl rfl, by omega, fun t ht => hl.ok _ (List.mem_map.mpr ⟨t, ht, rfl⟩)⟩, ?_⟩
      and_intros
      exact hN _ ⟨_, fun m hm => hls m (List.mem_cons_of_mem _ hm), rfl⟩
    rintro ρ ⟨x, _, rfl⟩
    and_intros
    refine ⟨cs, rfl, hcs, poolC cs, rfl, psC hcs, fun hno => ?_, fun r hr1 hr2 hr3 => ?_⟩
    · and_intros
      rfl
    and_intros
    rw [List.length_map]
    by_cases r3 : (r.length : Int) < 3
    · rw [decide_eq_true r3]
      and_intros
      rfl
    rw [decide_eq_false r3]
    have hfew := few_le hr1
    have hnum : (nums (poolC cs)).length ≤ 5 := by
      have h := nodup_len (nums_nd (ps := poolC cs)) (m := ("" : Str) :: nm) fun w hw => by
        rcases List.mem_cons.mp ((plC cs).nw w hw) with e | hw
        · rw [e]; exact List.mem_cons_self
        · obtain ⟨_, s, hs, e⟩ := names_mem.mp hw
          have := hci _ (tests_mem.mp hs)
          rcases e with e | e
          · rw [e]; exact this.1
          · rw [e]; exact this.2
      rw [List.length_cons] at h
      omega
    have gT : ∀ t ∈ r, TOk t := fun t h => (psC hcs).ok t (hr2 t h)
    obtain ⟨t0, t1, t2, rs, rfl⟩ : ∃ t0 t1 t2 rs, r = t0 :: t1 :: t2 :: rs := by
      match r, r3 with
      | [], h => simp at h
      | [_], h => simp at h
      | [_, _], h => simp at h
      | t0 :: t1 :: t2 :: rs, _ => exact ⟨t0, t1, t2, rs, rfl⟩
    and_intros
    split
    · rfl
    split
    · rfl
    rw [show (tsD t0 :: tsD t1 :: tsD t2 :: rs.map tsD) = (t0 :: t1 :: t2 :: rs).map tsD from rfl]
    refine compD_fil (xs := t0 :: t1 :: t2 :: rs) (ι := tsD) (fun t => decide (t ∈ tests cs)) tsD (fun t htr => ⟨_, rfl, fun N hN => ?_, fun _ N hN => ?_⟩) (by rw [szL]; omega) ?_
    · and_intros
      haveI : DecidableEq Cond := Classical.typeDecidableEq _
      refine gInD_by (ι := cnD) (x := .most t) cnD_inj pn_cn (ok_ts (gT t htr)) (fun c hc => ok_cn (hcs.ok c hc)) (fun h => ?_) fun h => ?_
      · rw [decide_eq_true (tests_mem.mpr h)] at hN
        and_intros
        exact hN
      · rw [decide_eq_false fun z => h (tests_mem.mp z)] at hN
        and_intros
        exact hN
    · and_intros
      exact hN
    have hfl : ((t0 :: t1 :: t2 :: rs).filter fun t => decide (t ∈ tests cs)).length ≤ 5 := by
      have := List.length_filter_le (fun t => decide (t ∈ tests cs)) (t0 :: t1 :: t2 :: rs)
      omega
    have hfm : ∀ t ∈ (t0 :: t1 :: t2 :: rs).filter fun t => decide (t ∈ tests cs), TOk t := fun t h => gT t (List.mem_filter.mp h).1
    generalize (t0 :: t1 :: t2 :: rs).filter (fun t => decide (t ∈ tests cs)) = us at *
    and_intros
    refine ⟨by decide, by decide, ?_⟩
    rw [show us.map tsD = (us.map Cond.most).map cnD by rw [List.map_map]; rfl]
    refine gCat_go (f := cnD) (a := us.map Cond.most) (b := [Cond.most (t1.1, t0.2.1, t0.2.2 + t1.2.2)]) (by rw [List.length_map, szL]; show _ + 1 ≤ _; omega) ?_
    have okm : TOk (t1.1, t0.2.1, t0.2.2 + t1.2.2) := ⟨(gT t1 (by simp)).1, (gT t0 (by simp)).2⟩
    refine ⟨by decide, ?_⟩
    rw [List.map_append]
    refine gIx_last ⟨by decide, ?_⟩
    rw [← List.map_append, show (tsD t0 :: tsD t1 :: tsD t2 :: rs.map tsD) = (t0 :: t1 :: t2 :: rs).map tsD from rfl]
    refine gSlL_drop (k := 2) (f := tsD) (l := t0 :: t1 :: t2 :: rs) (gCat_go (f := tsD) (a := [(t1.1, t0.2.1, t0.2.2 + t1.2.2)]) (b := (t0 :: t1 :: t2 :: rs).drop 2) (by rw [List.length_drop, szL]; show 1 + _ ≤ _; omega) ?_)
    refine ⟨by decide, by decide, ?_⟩
    refine ⟨us.map Cond.most ++ [Cond.most (t1.1, t0.2.1, t0.2.2 + t1.2.2)], [.ring "ring" (t0 :: t1 :: t2 :: rs), .ring "ring" ([(t1.1, t0.2.1, t0.2.2 + t1.2.2)] ++ (t0 :: t1 :: t2 :: rs).drop 2)], rfl, ⟨by rw [List.length_append, List.length_map]; show _ + 1 ≤ 10; omega, fun c hc => ?_⟩, by show 2 ≤ 20; decide, fun p hp => ?_, ?_⟩
    · rcases List.mem_append.mp hc with z | z
      · obtain ⟨t, h, rfl⟩ := List.mem_map.mp z
        exact hfm t h
      · rw [List.mem_singleton.mp z]; exact okm
    · simp only [List.mem_cons, List.not_mem_nil, or_false] at hp
      rcases hp with rfl | rfl
      · exact ⟨.inl rfl, by omega, gT⟩
      · refine ⟨.inl rfl, by rw [List.length_append, List.length_drop]; show 1 + _ ≤ 200; omega, fun t ht => ?_⟩
        rcases List.mem_append.mp ht with z | z
        · rw [List.mem_singleton.mp z]; exact okm
        · exact gT t (List.mem_of_mem_drop z)
    · rfl
  · rw [decide_eq_false z9]
    and_intros
    have hxx := m1
    have hyy := m2
    clear z9
    generalize y0 = yy at *
    generalize x0 = xx at *

    refine ⟨nm, st, xx, yy, 0, rfl, hst, hxx, hyy, fun e1 => ?_⟩
    refine ⟨nm, st, yy, xx, 0, rfl, hst, hyy, hxx, fun e2 => ⟨by decide, ?_⟩⟩
    refine ⟨nm, st, xx, yy, 0, rfl, hst, hxx, hyy, fun e3 => ?_⟩
    refine ⟨nm, st, yy, xx, _, rfl, hst, hyy, hxx, fun e4 => ⟨by decide, ?_⟩⟩
    refine gSlL_take (k := 2) (f := cnD) (l := cs) (gCat_go (f := cnD) (a := [Cond.most (xx, yy, e3), Cond.most (yy, xx, e4)]) (b := cs.take 2) (by rw [List.length_take, szL]; show 2 + _ ≤ _; omega) ?_)
    refine ⟨b, cs, nm, hb, rfl, hci, fun n hn => ⟨(hnm n hn).1, (hnm n hn).2.1⟩, hn1, by omega, fun ms hml hmi => ⟨by decide, ?_⟩⟩
    have hrows : ∀ l ∈ [cs, [Cond.most (xx, yy, e1), Cond.most (yy, xx, e2)], [Cond.most (xx, yy, e3), Cond.most (yy, xx, e4)] ++ cs.take 2, ms], CsOk l := fun l hl => by
      simp only [List.mem_cons, List.not_mem_nil, or_false] at hl
      have p2 : ∀ u v, ∀ c ∈ [Cond.most (xx, yy, u), Cond.most (yy, xx, v)], CIn (("" : Str) :: nm) c := fun u v c hc => by
        simp only [List.mem_cons, List.not_mem_nil, or_false] at hc
        rcases hc with rfl | rfl
        · exact ⟨hxx, hyy⟩
        · exact ⟨hyy, hxx⟩
      rcases hl with rfl | rfl | rfl | rfl
      · exact okl _ (by omega) hci
      · exact okl _ (by show 2 ≤ 10; decide) (p2 _ _)
      · exact okl _ (by rw [List.length_append, List.length_take]; show 2 + _ ≤ 10; omega) fun c hc => (List.mem_append.mp hc).elim (p2 _ _ c) fun h => hci c (List.mem_of_mem_take h)
      · exact okl _ (by omega) hmi
    have hev : CsOk [Cond.most (xx, yy, e1), Cond.most (yy, xx, e2)] := hrows _ (by simp)
    have hsh : CsOk [Cond.most (xx, yy, e3), Cond.most (yy, xx, e4)] := okl _ (by show 2 ≤ 10; decide) fun c hc => by
      simp only [List.mem_cons, List.not_mem_nil, or_false] at hc
      rcases hc with rfl | rfl
      · exact ⟨hxx, hyy⟩
      · exact ⟨hyy, hxx⟩
    refine forD_map (ι := fun l : List Cond => D.lst (l.map cnD)) (l := [cs, [Cond.most (xx, yy, e1), Cond.most (yy, xx, e2)], [Cond.most (xx, yy, e3), Cond.most (yy, xx, e4)] ++ cs.take 2, ms]) (fun ls ρ => ∃ (w v x : Option (Nat × D)), (∀ l ∈ ls, CsOk l) ∧ ρ = [some (0, .raw (.ref a)), some (0, .raw (.ref b)), some (0, .lst (nm.map .str)), some (0, natD top), some (0, sT .int st), some (0, .lst (cs.map cnD)), w, some (0, natD p0), some (0, .str xx), some (0, .str yy), some (0, .lst ([Cond.most (xx, yy, e1), Cond.most (yy, xx, e2)].map cnD)), some (0, .lst ([Cond.most (xx, yy, e3), Cond.most (yy, xx, e4)].map cnD)), v, x, none, none]) ⟨_, _, none, hrows, rfl⟩ ?_ ?_
    · rintro l ls ρ ⟨w, v, x, hls, rfl⟩ N hN
      refine ⟨_, rfl, ?_⟩
      have hl := hls l List.mem_cons_self
      and_intros
      refine ⟨b, l, nm, hb, rfl, hl, hn1, by omega, fun n hn => ⟨(hnm n hn).1, (hnm n hn).2.2⟩, fun pp hp1 hp2 => ?_⟩
      refine ⟨l, pp, rfl, hl, hp1, hp2, ?_⟩
      and_intros
      exact hN _ ⟨_, _, _, fun m hm => hls m (List.mem_cons_of_mem _ hm), rfl⟩
    rintro ρ ⟨w, v, x, _, rfl⟩
    and_intros
    refine ⟨by decide, ?_⟩
    refine forD_map (ι := fun l : List Tst => D.lst (l.map tsD)) (l := [[(xx, yy, e1), (yy, xx, e2)], [(xx, yy, e3), (yy, xx, e4)]]) (fun ls ρ => ∃ (x : Option (Nat × D)), (∀ l ∈ ls, CsOk (l.map Cond.most) ∧ l.length ≤ 2) ∧ ρ = [some (0, .raw (.ref a)), some (0, .raw (.ref b)), some (0, .lst (nm.map .str)), some (0, natD top), some (0, sT .int st), some (0, .lst (cs.map cnD)), w, some (0, natD p0), some (0, .str xx), some (0, .str yy), some (0, .lst ([Cond.most (xx, yy, e1), Cond.most (yy, xx, e2)].map cnD)), some (0, .lst ([Cond.most (xx, yy, e3), Cond.most (yy, xx, e4)].map cnD)), v, x, none, none]) ⟨_, fun l hl => ?_, rfl⟩ ?_ ?_
    · simp only [List.mem_cons, List.not_mem_nil, or_false] at hl
      rcases hl with rfl | rfl
      · exact ⟨hev, Nat.le_refl 2⟩
      · exact ⟨hsh, Nat.le_refl 2⟩
    · rintro l ls ρ ⟨x, hls, rfl⟩ N hN
      refine ⟨_, rfl, ?_⟩
      obtain ⟨hl, hl2⟩ := hls l List.mem_cons_self
      and_intros
      refine ⟨l.map Cond.most, by rw [List.map_map]; rfl, hl, ⟨by decide, ?_⟩⟩
      refine ⟨l.map Cond.most, .ring "ring" l, by rw [List.map_map]; rfl, hl, ⟨.inl rfl, by omega, fun t ht => hl.ok _ (List.mem_map.mpr ⟨t, ht, rfl⟩)⟩, ?_⟩
      and_intros
      exact hN _ ⟨_, fun m hm => hls m (List.mem_cons_of_mem _ hm), rfl⟩
    rintro ρ ⟨x, _, rfl⟩
    and_intros
    refine ⟨cs, rfl, hcs, poolC cs, rfl, psC hcs, fun hno => ?_, fun r hr1 hr2 hr3 => ?_⟩
    · and_intros
      rfl
    and_intros
    rw [List.length_map]
    by_cases r3 : (r.length : Int) < 3
    · rw [decide_eq_true r3]
      and_intros
      rfl
    rw [decide_eq_false r3]
    have hfew := few_le hr1
    have hnum : (nums (poolC cs)).length ≤ 5 := by
      have h := nodup_len (nums_nd (ps := poolC cs)) (m := ("" : Str) :: nm) fun w hw => by
        rcases List.mem_cons.mp ((plC cs).nw w hw) with e | hw
        · rw [e]; exact List.mem_cons_self
        · obtain ⟨_, s, hs, e⟩ := names_mem.mp hw
          have := hci _ (tests_mem.mp hs)
          rcases e with e | e
          · rw [e]; exact this.1
          · rw [e]; exact this.2
      rw [List.length_cons] at h
      omega
    have gT : ∀ t ∈ r, TOk t := fun t h => (psC hcs).ok t (hr2 t h)
    obtain ⟨t0, t1, t2, rs, rfl⟩ : ∃ t0 t1 t2 rs, r = t0 :: t1 :: t2 :: rs := by
      match r, r3 with
      | [], h => simp at h
      | [_], h => simp at h
      | [_, _], h => simp at h
      | t0 :: t1 :: t2 :: rs, _ => exact ⟨t0, t1, t2, rs, rfl⟩
    and_intros
    split
    · rfl
    split
    · rfl
    rw [show (tsD t0 :: tsD t1 :: tsD t2 :: rs.map tsD) = (t0 :: t1 :: t2 :: rs).map tsD from rfl]
    refine compD_fil (xs := t0 :: t1 :: t2 :: rs) (ι := tsD) (fun t => decide (t ∈ tests cs)) tsD (fun t htr => ⟨_, rfl, fun N hN => ?_, fun _ N hN => ?_⟩) (by rw [szL]; omega) ?_
    · and_intros
      haveI : DecidableEq Cond := Classical.typeDecidableEq _
      refine gInD_by (ι := cnD) (x := .most t) cnD_inj pn_cn (ok_ts (gT t htr)) (fun c hc => ok_cn (hcs.ok c hc)) (fun h => ?_) fun h => ?_
      · rw [decide_eq_true (tests_mem.mpr h)] at hN
        and_intros
        exact hN
      · rw [decide_eq_false fun z => h (tests_mem.mp z)] at hN
        and_intros
        exact hN
    · and_intros
      exact hN
    have hfl : ((t0 :: t1 :: t2 :: rs).filter fun t => decide (t ∈ tests cs)).length ≤ 5 := by
      have := List.length_filter_le (fun t => decide (t ∈ tests cs)) (t0 :: t1 :: t2 :: rs)
      omega
    have hfm : ∀ t ∈ (t0 :: t1 :: t2 :: rs).filter fun t => decide (t ∈ tests cs), TOk t := fun t h => gT t (List.mem_filter.mp h).1
    generalize (t0 :: t1 :: t2 :: rs).filter (fun t => decide (t ∈ tests cs)) = us at *
    and_intros
    refine ⟨by decide, by decide, ?_⟩
    rw [show us.map tsD = (us.map Cond.most).map cnD by rw [List.map_map]; rfl]
    refine gCat_go (f := cnD) (a := us.map Cond.most) (b := [Cond.most (t1.1, t0.2.1, t0.2.2 + t1.2.2)]) (by rw [List.length_map, szL]; show _ + 1 ≤ _; omega) ?_
    have okm : TOk (t1.1, t0.2.1, t0.2.2 + t1.2.2) := ⟨(gT t1 (by simp)).1, (gT t0 (by simp)).2⟩
    refine ⟨by decide, ?_⟩
    rw [List.map_append]
    refine gIx_last ⟨by decide, ?_⟩
    rw [← List.map_append, show (tsD t0 :: tsD t1 :: tsD t2 :: rs.map tsD) = (t0 :: t1 :: t2 :: rs).map tsD from rfl]
    refine gSlL_drop (k := 2) (f := tsD) (l := t0 :: t1 :: t2 :: rs) (gCat_go (f := tsD) (a := [(t1.1, t0.2.1, t0.2.2 + t1.2.2)]) (b := (t0 :: t1 :: t2 :: rs).drop 2) (by rw [List.length_drop, szL]; show 1 + _ ≤ _; omega) ?_)
    refine ⟨by decide, by decide, ?_⟩
    refine ⟨us.map Cond.most ++ [Cond.most (t1.1, t0.2.1, t0.2.2 + t1.2.2)], [.ring "ring" (t0 :: t1 :: t2 :: rs), .ring "ring" ([(t1.1, t0.2.1, t0.2.2 + t1.2.2)] ++ (t0 :: t1 :: t2 :: rs).drop 2)], rfl, ⟨by rw [List.length_append, List.length_map]; show _ + 1 ≤ 10; omega, fun c hc => ?_⟩, by show 2 ≤ 20; decide, fun p hp => ?_, ?_⟩
    · rcases List.mem_append.mp hc with z | z
      · obtain ⟨t, h, rfl⟩ := List.mem_map.mp z
        exact hfm t h
      · rw [List.mem_singleton.mp z]; exact okm
    · simp only [List.mem_cons, List.not_mem_nil, or_false] at hp
      rcases hp with rfl | rfl
      · exact ⟨.inl rfl, by omega, gT⟩
      · refine ⟨.inl rfl, by rw [List.length_append, List.length_drop]; show 1 + _ ≤ 200; omega, fun t ht => ?_⟩
        rcases List.mem_append.mp ht with z | z
        · rw [List.mem_singleton.mp z]; exact okm
        · exact gT t (List.mem_of_mem_drop z)
    · rfl
end
end GK
namespace GK
open PySem PySem.Spec PyProof.Rows L2
open N2 N7
theorem all_mk {l : PySem.W.OpenLaw} {w : World} {K : PySem.W.Frag} {h : Heap} {mg : Str → Option Value} {fa f_ring_back f_ring_among f_prices_or_ring f_edges_leaving f_next_layer f_closed_walk f_short_ring f_tests_of f_names_of f_lacking_of f_pool_of f_numbered f_edges_of f_ring_of f_ring_stands f_tested_lacking f_clash_of f_shows_clash f_law_bag f_law_draw f_law_name f_law_names f_law_condition f_law_used f_law_lacked f_law_closed f_law_student f_law_between f_law_round f_law_no_bound f_law_alternative f_law_pool f_law_shortest f_law_is_test f_law_ring f_law_due f_law_right f_law_shown f_law_papers f_law_judged f_law_asked f_law_more_lacks f_law : Addr} (X : K.In h) (G : h.Ns mainGlobals mg) (hfa : mg "law" = some (.ref fa)) {od_ring_back an_ring_back od_ring_among an_ring_among od_prices_or_ring an_prices_or_ring od_edges_leaving an_edges_leaving od_next_layer an_next_layer od_closed_walk an_closed_walk od_short_ring an_short_ring od_tests_of an_tests_of od_names_of an_names_of od_lacking_of an_lacking_of od_pool_of an_pool_of od_numbered an_numbered od_edges_of an_edges_of od_ring_of an_ring_of od_ring_stands an_ring_stands od_tested_lacking an_tested_lacking od_clash_of an_clash_of od_shows_clash an_shows_clash od_law_bag an_law_bag od_law_draw an_law_draw od_law_name an_law_name od_law_names an_law_names od_law_condition an_law_condition od_law_used an_law_used od_law_lacked an_law_lacked od_law_closed an_law_closed od_law_student an_law_student od_law_between an_law_between od_law_round an_law_round od_law_no_bound an_law_no_bound od_law_alternative an_law_alternative od_law_pool an_law_pool od_law_shortest an_law_shortest od_law_is_test an_law_is_test od_law_ring an_law_ring od_law_due an_law_due od_law_right an_law_right od_law_shown an_law_shown od_law_papers an_law_papers od_law_judged an_law_judged od_law_asked an_law_asked od_law_more_lacks an_law_more_lacks od_law an_law : Option Addr} {sl_ring_back sl_ring_among sl_prices_or_ring sl_edges_leaving sl_next_layer sl_closed_walk sl_short_ring sl_tests_of sl_names_of sl_lacking_of sl_pool_of sl_numbered sl_edges_of sl_ring_of sl_ring_stands sl_tested_lacking sl_clash_of sl_shows_clash sl_law_bag sl_law_draw sl_law_name sl_law_names sl_law_condition sl_law_used sl_law_lacked sl_law_closed sl_law_student sl_law_between sl_law_round sl_law_no_bound sl_law_alternative sl_law_pool sl_law_shortest sl_law_is_test sl_law_ring sl_law_due sl_law_right sl_law_shown sl_law_papers sl_law_judged sl_law_asked sl_law_more_lacks sl_law : Array (Option Value)} {oc_ring_back kV_ring_back dc_ring_back pm_ring_back cd_ring_back ct_ring_back oc_ring_among kV_ring_among dc_ring_among pm_ring_among cd_ring_among ct_ring_among oc_prices_or_ring kV_prices_or_ring dc_prices_or_ring pm_prices_or_ring cd_prices_or_ring ct_prices_or_ring oc_edges_leaving kV_edges_leaving dc_edges_leaving pm_edges_leaving cd_edges_leaving ct_edges_leaving oc_next_layer kV_next_layer dc_next_layer pm_next_layer cd_next_layer ct_next_layer oc_closed_walk kV_closed_walk dc_closed_walk pm_closed_walk cd_closed_walk ct_closed_walk oc_short_ring kV_short_ring dc_short_ring pm_short_ring cd_short_ring ct_short_ring oc_tests_of kV_tests_of dc_tests_of pm_tests_of cd_tests_of ct_tests_of oc_names_of kV_names_of dc_names_of pm_names_of cd_names_of ct_names_of oc_lacking_of kV_lacking_of dc_lacking_of pm_lacking_of cd_lacking_of ct_lacking_of oc_pool_of kV_pool_of dc_pool_of pm_pool_of cd_pool_of ct_pool_of oc_numbered kV_numbered dc_numbered pm_numbered cd_numbered ct_numbered oc_edges_of kV_edges_of dc_edges_of pm_edges_of cd_edges_of ct_edges_of oc_ring_of kV_ring_of dc_ring_of pm_ring_of cd_ring_of ct_ring_of oc_ring_stands kV_ring_stands dc_ring_stands pm_ring_stands cd_ring_stands ct_ring_stands oc_tested_lacking kV_tested_lacking dc_tested_lacking pm_tested_lacking cd_tested_lacking ct_tested_lacking oc_clash_of kV_clash_of dc_clash_of pm_clash_of cd_clash_of ct_clash_of oc_shows_clash kV_shows_clash dc_shows_clash pm_shows_clash cd_shows_clash ct_shows_clash oc_law_bag kV_law_bag dc_law_bag pm_law_bag cd_law_bag ct_law_bag oc_law_draw kV_law_draw dc_law_draw pm_law_draw cd_law_draw ct_law_draw oc_law_name kV_law_name dc_law_name pm_law_name cd_law_name ct_law_name oc_law_names kV_law_names dc_law_names pm_law_names cd_law_names ct_law_names oc_law_condition kV_law_condition dc_law_condition pm_law_condition cd_law_condition ct_law_condition oc_law_used kV_law_used dc_law_used pm_law_used cd_law_used ct_law_used oc_law_lacked kV_law_lacked dc_law_lacked pm_law_lacked cd_law_lacked ct_law_lacked oc_law_closed kV_law_closed dc_law_closed pm_law_closed cd_law_closed ct_law_closed oc_law_student kV_law_student dc_law_student pm_law_student cd_law_student ct_law_student oc_law_between kV_law_between dc_law_between pm_law_between cd_law_between ct_law_between oc_law_round kV_law_round dc_law_round pm_law_round cd_law_round ct_law_round oc_law_no_bound kV_law_no_bound dc_law_no_bound pm_law_no_bound cd_law_no_bound ct_law_no_bound oc_law_alternative kV_law_alternative dc_law_alternative pm_law_alternative cd_law_alternative ct_law_alternative oc_law_pool kV_law_pool dc_law_pool pm_law_pool cd_law_pool ct_law_pool oc_law_shortest kV_law_shortest dc_law_shortest pm_law_shortest cd_law_shortest ct_law_shortest oc_law_is_test kV_law_is_test dc_law_is_test pm_law_is_test cd_law_is_test ct_law_is_test oc_law_ring kV_law_ring dc_law_ring pm_law_ring cd_law_ring ct_law_ring oc_law_due kV_law_due dc_law_due pm_law_due cd_law_due ct_law_due oc_law_right kV_law_right dc_law_right pm_law_right cd_law_right ct_law_right oc_law_shown kV_law_shown dc_law_shown pm_law_shown cd_law_shown ct_law_shown oc_law_papers kV_law_papers dc_law_papers pm_law_papers cd_law_papers ct_law_papers oc_law_judged kV_law_judged dc_law_judged pm_law_judged cd_law_judged ct_law_judged oc_law_asked kV_law_asked dc_law_asked pm_law_asked cd_law_asked ct_law_asked oc_law_more_lacks kV_law_more_lacks dc_law_more_lacks pm_law_more_lacks cd_law_more_lacks ct_law_more_lacks oc_law kV_law dc_law pm_law cd_law ct_law : Value} {tk_GREATEST : Tok}
    (a_ring_back : PySem.W.nsIn K mainGlobals "ring_back" = some (some (.ref f_ring_back)))
    (l_ring_back : K.lookup f_ring_back = some ⟨oc_ring_back, od_ring_back, .func (PySem.W.fnOf "ring_back" "ring_back" (defArgs s_ring_back) (defBody s_ring_back) (defScope s_ring_back) .none kV_ring_back dc_ring_back pm_ring_back an_ring_back cd_ring_back ct_ring_back), sl_ring_back⟩) (c_ring_back_ : PySem.W.codeIn K cd_ring_back "ring_back" = true) (k_ring_back : PySem.W.keepIn K (.ref f_ring_back) = true)
    (a_ring_among : PySem.W.nsIn K mainGlobals "ring_among" = some (some (.ref f_ring_among)))
    (l_ring_among : K.lookup f_ring_among = some ⟨oc_ring_among, od_ring_among, .func (PySem.W.fnOf "ring_among" "ring_among" (defArgs s_ring_among) (defBody s_ring_among) (defScope s_ring_among) .none kV_ring_among dc_ring_among pm_ring_among an_ring_among cd_ring_among ct_ring_among), sl_ring_among⟩) (c_ring_among_ : PySem.W.codeIn K cd_ring_among "ring_among" = true) (k_ring_among : PySem.W.keepIn K (.ref f_ring_among) = true)
    (a_prices_or_ring : PySem.W.nsIn K mainGlobals "prices_or_ring" = some (some (.ref f_prices_or_ring)))
    (l_prices_or_ring : K.lookup f_prices_or_ring = some ⟨oc_prices_or_ring, od_prices_or_ring, .func (PySem.W.fnOf "prices_or_ring" "prices_or_ring" (defArgs s_prices_or_ring) (defBody s_prices_or_ring) (defScope s_prices_or_ring) .none kV_prices_or_ring dc_prices_or_ring pm_prices_or_ring an_prices_or_ring cd_prices_or_ring ct_prices_or_ring), sl_prices_or_ring⟩) (c_prices_or_ring_ : PySem.W.codeIn K cd_prices_or_ring "prices_or_ring" = true) (k_prices_or_ring : PySem.W.keepIn K (.ref f_prices_or_ring) = true)
    (a_edges_leaving : PySem.W.nsIn K mainGlobals "edges_leaving" = some (some (.ref f_edges_leaving)))
    (l_edges_leaving : K.lookup f_edges_leaving = some ⟨oc_edges_leaving, od_edges_leaving, .func (PySem.W.fnOf "edges_leaving" "edges_leaving" (defArgs s_edges_leaving) (defBody s_edges_leaving) (defScope s_edges_leaving) .none kV_edges_leaving dc_edges_leaving pm_edges_leaving an_edges_leaving cd_edges_leaving ct_edges_leaving), sl_edges_leaving⟩) (c_edges_leaving_ : PySem.W.codeIn K cd_edges_leaving "edges_leaving" = true) (k_edges_leaving : PySem.W.keepIn K (.ref f_edges_leaving) = true)
    (a_next_layer : PySem.W.nsIn K mainGlobals "next_layer" = some (some (.ref f_next_layer)))
    (l_next_layer : K.lookup f_next_layer = some ⟨oc_next_layer, od_next_layer, .func (PySem.W.fnOf "next_layer" "next_layer" (defArgs s_next_layer) (defBody s_next_layer) (defScope s_next_layer) .none kV_next_layer dc_next_layer pm_next_layer an_next_layer cd_next_layer ct_next_layer), sl_next_layer⟩) (c_next_layer_ : PySem.W.codeIn K cd_next_layer "next_layer" = true) (k_next_layer : PySem.W.keepIn K (.ref f_next_layer) = true)
    (a_closed_walk : PySem.W.nsIn K mainGlobals "closed_walk" = some (some (.ref f_closed_walk)))
    (l_closed_walk : K.lookup f_closed_walk = some ⟨oc_closed_walk, od_closed_walk, .func (PySem.W.fnOf "closed_walk" "closed_walk" (defArgs s_closed_walk) (defBody s_closed_walk) (defScope s_closed_walk) .none kV_closed_walk dc_closed_walk pm_closed_walk an_closed_walk cd_closed_walk ct_closed_walk), sl_closed_walk⟩) (c_closed_walk_ : PySem.W.codeIn K cd_closed_walk "closed_walk" = true) (k_closed_walk : PySem.W.keepIn K (.ref f_closed_walk) = true)
    (a_short_ring : PySem.W.nsIn K mainGlobals "short_ring" = some (some (.ref f_short_ring)))
    (l_short_ring : K.lookup f_short_ring = some ⟨oc_short_ring, od_short_ring, .func (PySem.W.fnOf "short_ring" "short_ring" (defArgs s_short_ring) (defBody s_short_ring) (defScope s_short_ring) .none kV_short_ring dc_short_ring pm_short_ring an_short_ring cd_short_ring ct_short_ring), sl_short_ring⟩) (c_short_ring_ : PySem.W.codeIn K cd_short_ring "short_ring" = true) (k_short_ring : PySem.W.keepIn K (.ref f_short_ring) = true)
    (a_tests_of : PySem.W.nsIn K mainGlobals "tests_of" = some (some (.ref f_tests_of)))
    (l_tests_of : K.lookup f_tests_of = some ⟨oc_tests_of, od_tests_of, .func (PySem.W.fnOf "tests_of" "tests_of" (defArgs s_tests_of) (defBody s_tests_of) (defScope s_tests_of) .none kV_tests_of dc_tests_of pm_tests_of an_tests_of cd_tests_of ct_tests_of), sl_tests_of⟩) (c_tests_of_ : PySem.W.codeIn K cd_tests_of "tests_of" = true) (k_tests_of : PySem.W.keepIn K (.ref f_tests_of) = true)
    (a_names_of : PySem.W.nsIn K mainGlobals "names_of" = some (some (.ref f_names_of)))
    (l_names_of : K.lookup f_names_of = some ⟨oc_names_of, od_names_of, .func (PySem.W.fnOf "names_of" "names_of" (defArgs s_names_of) (defBody s_names_of) (defScope s_names_of) .none kV_names_of dc_names_of pm_names_of an_names_of cd_names_of ct_names_of), sl_names_of⟩) (c_names_of_ : PySem.W.codeIn K cd_names_of "names_of" = true) (k_names_of : PySem.W.keepIn K (.ref f_names_of) = true)
    (a_lacking_of : PySem.W.nsIn K mainGlobals "lacking_of" = some (some (.ref f_lacking_of)))
    (l_lacking_of : K.lookup f_lacking_of = some ⟨oc_lacking_of, od_lacking_of, .func (PySem.W.fnOf "lacking_of" "lacking_of" (defArgs s_lacking_of) (defBody s_lacking_of) (defScope s_lacking_of) .none kV_lacking_of dc_lacking_of pm_lacking_of an_lacking_of cd_lacking_of ct_lacking_of), sl_lacking_of⟩) (c_lacking_of_ : PySem.W.codeIn K cd_lacking_of "lacking_of" = true) (k_lacking_of : PySem.W.keepIn K (.ref f_lacking_of) = true)
    (a_pool_of : PySem.W.nsIn K mainGlobals "pool_of" = some (some (.ref f_pool_of)))
    (l_pool_of : K.lookup f_pool_of = some ⟨oc_pool_of, od_pool_of, .func (PySem.W.fnOf "pool_of" "pool_of" (defArgs s_pool_of) (defBody s_pool_of) (defScope s_pool_of) .none kV_pool_of dc_pool_of pm_pool_of an_pool_of cd_pool_of ct_pool_of), sl_pool_of⟩) (c_pool_of_ : PySem.W.codeIn K cd_pool_of "pool_of" = true) (k_pool_of : PySem.W.keepIn K (.ref f_pool_of) = true)
    (a_numbered : PySem.W.nsIn K mainGlobals "numbered" = some (some (.ref f_numbered)))
    (l_numbered : K.lookup f_numbered = some ⟨oc_numbered, od_numbered, .func (PySem.W.fnOf "numbered" "numbered" (defArgs s_numbered) (defBody s_numbered) (defScope s_numbered) .none kV_numbered dc_numbered pm_numbered an_numbered cd_numbered ct_numbered), sl_numbered⟩) (c_numbered_ : PySem.W.codeIn K cd_numbered "numbered" = true) (k_numbered : PySem.W.keepIn K (.ref f_numbered) = true)
    (a_edges_of : PySem.W.nsIn K mainGlobals "edges_of" = some (some (.ref f_edges_of)))
    (l_edges_of : K.lookup f_edges_of = some ⟨oc_edges_of, od_edges_of, .func (PySem.W.fnOf "edges_of" "edges_of" (defArgs s_edges_of) (defBody s_edges_of) (defScope s_edges_of) .none kV_edges_of dc_edges_of pm_edges_of an_edges_of cd_edges_of ct_edges_of), sl_edges_of⟩) (c_edges_of_ : PySem.W.codeIn K cd_edges_of "edges_of" = true) (k_edges_of : PySem.W.keepIn K (.ref f_edges_of) = true)
    (a_ring_of : PySem.W.nsIn K mainGlobals "ring_of" = some (some (.ref f_ring_of)))
    (l_ring_of : K.lookup f_ring_of = some ⟨oc_ring_of, od_ring_of, .func (PySem.W.fnOf "ring_of" "ring_of" (defArgs s_ring_of) (defBody s_ring_of) (defScope s_ring_of) .none kV_ring_of dc_ring_of pm_ring_of an_ring_of cd_ring_of ct_ring_of), sl_ring_of⟩) (c_ring_of_ : PySem.W.codeIn K cd_ring_of "ring_of" = true) (k_ring_of : PySem.W.keepIn K (.ref f_ring_of) = true)
    (a_ring_stands : PySem.W.nsIn K mainGlobals "ring_stands" = some (some (.ref f_ring_stands)))
    (l_ring_stands : K.lookup f_ring_stands = some ⟨oc_ring_stands, od_ring_stands, .func (PySem.W.fnOf "ring_stands" "ring_stands" (defArgs s_ring_stands) (defBody s_ring_stands) (defScope s_ring_stands) .none kV_ring_stands dc_ring_stands pm_ring_stands an_ring_stands cd_ring_stands ct_ring_stands), sl_ring_stands⟩) (c_ring_stands_ : PySem.W.codeIn K cd_ring_stands "ring_stands" = true) (k_ring_stands : PySem.W.keepIn K (.ref f_ring_stands) = true)
    (a_tested_lacking : PySem.W.nsIn K mainGlobals "tested_lacking" = some (some (.ref f_tested_lacking)))
    (l_tested_lacking : K.lookup f_tested_lacking = some ⟨oc_tested_lacking, od_tested_lacking, .func (PySem.W.fnOf "tested_lacking" "tested_lacking" (defArgs s_tested_lacking) (defBody s_tested_lacking) (defScope s_tested_lacking) .none kV_tested_lacking dc_tested_lacking pm_tested_lacking an_tested_lacking cd_tested_lacking ct_tested_lacking), sl_tested_lacking⟩) (c_tested_lacking_ : PySem.W.codeIn K cd_tested_lacking "tested_lacking" = true) (k_tested_lacking : PySem.W.keepIn K (.ref f_tested_lacking) = true)
    (a_clash_of : PySem.W.nsIn K mainGlobals "clash_of" = some (some (.ref f_clash_of)))
    (l_clash_of : K.lookup f_clash_of = some ⟨oc_clash_of, od_clash_of, .func (PySem.W.fnOf "clash_of" "clash_of" (defArgs s_clash_of) (defBody s_clash_of) (defScope s_clash_of) .none kV_clash_of dc_clash_of pm_clash_of an_clash_of cd_clash_of ct_clash_of), sl_clash_of⟩) (c_clash_of_ : PySem.W.codeIn K cd_clash_of "clash_of" = true) (k_clash_of : PySem.W.keepIn K (.ref f_clash_of) = true)
    (a_shows_clash : PySem.W.nsIn K mainGlobals "shows_clash" = some (some (.ref f_shows_clash)))
    (l_shows_clash : K.lookup f_shows_clash = some ⟨oc_shows_clash, od_shows_clash, .func (PySem.W.fnOf "shows_clash" "shows_clash" (defArgs s_shows_clash) (defBody s_shows_clash) (defScope s_shows_clash) .none kV_shows_clash dc_shows_clash pm_shows_clash an_shows_clash cd_shows_clash ct_shows_clash), sl_shows_clash⟩) (c_shows_clash_ : PySem.W.codeIn K cd_shows_clash "shows_clash" = true) (k_shows_clash : PySem.W.keepIn K (.ref f_shows_clash) = true)
    (a_law_bag : PySem.W.nsIn K mainGlobals "_law_bag" = some (some (.ref f_law_bag)))
    (l_law_bag : K.lookup f_law_bag = some ⟨oc_law_bag, od_law_bag, .func (PySem.W.fnOf "_law_bag" "_law_bag" (defArgs sBag) (defBody sBag) (defScope sBag) .none kV_law_bag dc_law_bag pm_law_bag an_law_bag cd_law_bag ct_law_bag), sl_law_bag⟩) (c_law_bag_ : PySem.W.codeIn K cd_law_bag "_law_bag" = true) (k_law_bag : PySem.W.keepIn K (.ref f_law_bag) = true)
    (a_law_draw : PySem.W.nsIn K mainGlobals "_law_draw" = some (some (.ref f_law_draw)))
    (l_law_draw : K.lookup f_law_draw = some ⟨oc_law_draw, od_law_draw, .func (PySem.W.fnOf "_law_draw" "_law_draw" (defArgs sDraw) (defBody sDraw) (defScope sDraw) .none kV_law_draw dc_law_draw pm_law_draw an_law_draw cd_law_draw ct_law_draw), sl_law_draw⟩) (c_law_draw_ : PySem.W.codeIn K cd_law_draw "_law_draw" = true) (k_law_draw : PySem.W.keepIn K (.ref f_law_draw) = true)
    (a_law_name : PySem.W.nsIn K mainGlobals "_law_name" = some (some (.ref f_law_name)))
    (l_law_name : K.lookup f_law_name = some ⟨oc_law_name, od_law_name, .func (PySem.W.fnOf "_law_name" "_law_name" (defArgs s_law_name) (defBody s_law_name) (defScope s_law_name) .none kV_law_name dc_law_name pm_law_name an_law_name cd_law_name ct_law_name), sl_law_name⟩) (c_law_name_ : PySem.W.codeIn K cd_law_name "_law_name" = true) (k_law_name : PySem.W.keepIn K (.ref f_law_name) = true)
    (a_law_names : PySem.W.nsIn K mainGlobals "_law_names" = some (some (.ref f_law_names)))
    (l_law_names : K.lookup f_law_names = some ⟨oc_law_names, od_law_names, .func (PySem.W.fnOf "_law_names" "_law_names" (defArgs s_law_names) (defBody s_law_names) (defScope s_law_names) .none kV_law_names dc_law_names pm_law_names an_law_names cd_law_names ct_law_names), sl_law_names⟩) (c_law_names_ : PySem.W.codeIn K cd_law_names "_law_names" = true) (k_law_names : PySem.W.keepIn K (.ref f_law_names) = true)
    (a_law_condition : PySem.W.nsIn K mainGlobals "_law_condition" = some (some (.ref f_law_condition)))
    (l_law_condition : K.lookup f_law_condition = some ⟨oc_law_condition, od_law_condition, .func (PySem.W.fnOf "_law_condition" "_law_condition" (defArgs s_law_condition) (defBody s_law_condition) (defScope s_law_condition) .none kV_law_condition dc_law_condition pm_law_condition an_law_condition cd_law_condition ct_law_condition), sl_law_condition⟩) (c_law_condition_ : PySem.W.codeIn K cd_law_condition "_law_condition" = true) (k_law_condition : PySem.W.keepIn K (.ref f_law_condition) = true)
    (a_law_used : PySem.W.nsIn K mainGlobals "_law_used" = some (some (.ref f_law_used)))
    (l_law_used : K.lookup f_law_used = some ⟨oc_law_used, od_law_used, .func (PySem.W.fnOf "_law_used" "_law_used" (defArgs s_law_used) (defBody s_law_used) (defScope s_law_used) .none kV_law_used dc_law_used pm_law_used an_law_used cd_law_used ct_law_used), sl_law_used⟩) (c_law_used_ : PySem.W.codeIn K cd_law_used "_law_used" = true) (k_law_used : PySem.W.keepIn K (.ref f_law_used) = true)
    (a_law_lacked : PySem.W.nsIn K mainGlobals "_law_lacked" = some (some (.ref f_law_lacked)))
    (l_law_lacked : K.lookup f_law_lacked = some ⟨oc_law_lacked, od_law_lacked, .func (PySem.W.fnOf "_law_lacked" "_law_lacked" (defArgs s_law_lacked) (defBody s_law_lacked) (defScope s_law_lacked) .none kV_law_lacked dc_law_lacked pm_law_lacked an_law_lacked cd_law_lacked ct_law_lacked), sl_law_lacked⟩) (c_law_lacked_ : PySem.W.codeIn K cd_law_lacked "_law_lacked" = true) (k_law_lacked : PySem.W.keepIn K (.ref f_law_lacked) = true)
    (a_law_closed : PySem.W.nsIn K mainGlobals "_law_closed" = some (some (.ref f_law_closed)))
    (l_law_closed : K.lookup f_law_closed = some ⟨oc_law_closed, od_law_closed, .func (PySem.W.fnOf "_law_closed" "_law_closed" (defArgs s_law_closed) (defBody s_law_closed) (defScope s_law_closed) .none kV_law_closed dc_law_closed pm_law_closed an_law_closed cd_law_closed ct_law_closed), sl_law_closed⟩) (c_law_closed_ : PySem.W.codeIn K cd_law_closed "_law_closed" = true) (k_law_closed : PySem.W.keepIn K (.ref f_law_closed) = true)
    (a_law_student : PySem.W.nsIn K mainGlobals "_law_student" = some (some (.ref f_law_student)))
    (l_law_student : K.lookup f_law_student = some ⟨oc_law_student, od_law_student, .func (PySem.W.fnOf "_law_student" "_law_student" (defArgs s_law_student) (defBody s_law_student) (defScope s_law_student) .none kV_law_student dc_law_student pm_law_student an_law_student cd_law_student ct_law_student), sl_law_student⟩) (c_law_student_ : PySem.W.codeIn K cd_law_student "_law_student" = true) (k_law_student : PySem.W.keepIn K (.ref f_law_student) = true)
    (a_law_between : PySem.W.nsIn K mainGlobals "_law_between" = some (some (.ref f_law_between)))
    (l_law_between : K.lookup f_law_between = some ⟨oc_law_between, od_law_between, .func (PySem.W.fnOf "_law_between" "_law_between" (defArgs s_law_between) (defBody s_law_between) (defScope s_law_between) .none kV_law_between dc_law_between pm_law_between an_law_between cd_law_between ct_law_between), sl_law_between⟩) (c_law_between_ : PySem.W.codeIn K cd_law_between "_law_between" = true) (k_law_between : PySem.W.keepIn K (.ref f_law_between) = true)
    (a_law_round : PySem.W.nsIn K mainGlobals "_law_round" = some (some (.ref f_law_round)))
    (l_law_round : K.lookup f_law_round = some ⟨oc_law_round, od_law_round, .func (PySem.W.fnOf "_law_round" "_law_round" (defArgs s_law_round) (defBody s_law_round) (defScope s_law_round) .none kV_law_round dc_law_round pm_law_round an_law_round cd_law_round ct_law_round), sl_law_round⟩) (c_law_round_ : PySem.W.codeIn K cd_law_round "_law_round" = true) (k_law_round : PySem.W.keepIn K (.ref f_law_round) = true)
    (a_law_no_bound : PySem.W.nsIn K mainGlobals "_law_no_bound" = some (some (.ref f_law_no_bound)))
    (l_law_no_bound : K.lookup f_law_no_bound = some ⟨oc_law_no_bound, od_law_no_bound, .func (PySem.W.fnOf "_law_no_bound" "_law_no_bound" (defArgs s_law_no_bound) (defBody s_law_no_bound) (defScope s_law_no_bound) .none kV_law_no_bound dc_law_no_bound pm_law_no_bound an_law_no_bound cd_law_no_bound ct_law_no_bound), sl_law_no_bound⟩) (c_law_no_bound_ : PySem.W.codeIn K cd_law_no_bound "_law_no_bound" = true) (k_law_no_bound : PySem.W.keepIn K (.ref f_law_no_bound) = true)
    (a_law_alternative : PySem.W.nsIn K mainGlobals "_law_alternative" = some (some (.ref f_law_alternative)))
    (l_law_alternative : K.lookup f_law_alternative = some ⟨oc_law_alternative, od_law_alternative, .func (PySem.W.fnOf "_law_alternative" "_law_alternative" (defArgs s_law_alternative) (defBody s_law_alternative) (defScope s_law_alternative) .none kV_law_alternative dc_law_alternative pm_law_alternative an_law_alternative cd_law_alternative ct_law_alternative), sl_law_alternative⟩) (c_law_alternative_ : PySem.W.codeIn K cd_law_alternative "_law_alternative" = true) (k_law_alternative : PySem.W.keepIn K (.ref f_law_alternative) = true)
    (a_law_pool : PySem.W.nsIn K mainGlobals "_law_pool" = some (some (.ref f_law_pool)))
    (l_law_pool : K.lookup f_law_pool = some ⟨oc_law_pool, od_law_pool, .func (PySem.W.fnOf "_law_pool" "_law_pool" (defArgs s_law_pool) (defBody s_law_pool) (defScope s_law_pool) .none kV_law_pool dc_law_pool pm_law_pool an_law_pool cd_law_pool ct_law_pool), sl_law_pool⟩) (c_law_pool_ : PySem.W.codeIn K cd_law_pool "_law_pool" = true) (k_law_pool : PySem.W.keepIn K (.ref f_law_pool) = true)
    (a_law_shortest : PySem.W.nsIn K mainGlobals "_law_shortest" = some (some (.ref f_law_shortest)))
    (l_law_shortest : K.lookup f_law_shortest = some ⟨oc_law_shortest, od_law_shortest, .func (PySem.W.fnOf "_law_shortest" "_law_shortest" (defArgs s_law_shortest) (defBody s_law_shortest) (defScope s_law_shortest) .none kV_law_shortest dc_law_shortest pm_law_shortest an_law_shortest cd_law_shortest ct_law_shortest), sl_law_shortest⟩) (c_law_shortest_ : PySem.W.codeIn K cd_law_shortest "_law_shortest" = true) (k_law_shortest : PySem.W.keepIn K (.ref f_law_shortest) = true)
    (a_law_is_test : PySem.W.nsIn K mainGlobals "_law_is_test" = some (some (.ref f_law_is_test)))
    (l_law_is_test : K.lookup f_law_is_test = some ⟨oc_law_is_test, od_law_is_test, .func (PySem.W.fnOf "_law_is_test" "_law_is_test" (defArgs s_law_is_test) (defBody s_law_is_test) (defScope s_law_is_test) .none kV_law_is_test dc_law_is_test pm_law_is_test an_law_is_test cd_law_is_test ct_law_is_test), sl_law_is_test⟩) (c_law_is_test_ : PySem.W.codeIn K cd_law_is_test "_law_is_test" = true) (k_law_is_test : PySem.W.keepIn K (.ref f_law_is_test) = true)
    (a_law_ring : PySem.W.nsIn K mainGlobals "_law_ring" = some (some (.ref f_law_ring)))
    (l_law_ring : K.lookup f_law_ring = some ⟨oc_law_ring, od_law_ring, .func (PySem.W.fnOf "_law_ring" "_law_ring" (defArgs s_law_ring) (defBody s_law_ring) (defScope s_law_ring) .none kV_law_ring dc_law_ring pm_law_ring an_law_ring cd_law_ring ct_law_ring), sl_law_ring⟩) (c_law_ring_ : PySem.W.codeIn K cd_law_ring "_law_ring" = true) (k_law_ring : PySem.W.keepIn K (.ref f_law_ring) = true)
    (a_law_due : PySem.W.nsIn K mainGlobals "_law_due" = some (some (.ref f_law_due)))
    (l_law_due : K.lookup f_law_due = some ⟨oc_law_due, od_law_due, .func (PySem.W.fnOf "_law_due" "_law_due" (defArgs s_law_due) (defBody s_law_due) (defScope s_law_due) .none kV_law_due dc_law_due pm_law_due an_law_due cd_law_due ct_law_due), sl_law_due⟩) (c_law_due_ : PySem.W.codeIn K cd_law_due "_law_due" = true) (k_law_due : PySem.W.keepIn K (.ref f_law_due) = true)
    (a_law_right : PySem.W.nsIn K mainGlobals "_law_right" = some (some (.ref f_law_right)))
    (l_law_right : K.lookup f_law_right = some ⟨oc_law_right, od_law_right, .func (PySem.W.fnOf "_law_right" "_law_right" (defArgs s_law_right) (defBody s_law_right) (defScope s_law_right) .none kV_law_right dc_law_right pm_law_right an_law_right cd_law_right ct_law_right), sl_law_right⟩) (c_law_right_ : PySem.W.codeIn K cd_law_right "_law_right" = true) (k_law_right : PySem.W.keepIn K (.ref f_law_right) = true)
    (a_law_shown : PySem.W.nsIn K mainGlobals "_law_shown" = some (some (.ref f_law_shown)))
    (l_law_shown : K.lookup f_law_shown = some ⟨oc_law_shown, od_law_shown, .func (PySem.W.fnOf "_law_shown" "_law_shown" (defArgs s_law_shown) (defBody s_law_shown) (defScope s_law_shown) .none kV_law_shown dc_law_shown pm_law_shown an_law_shown cd_law_shown ct_law_shown), sl_law_shown⟩) (c_law_shown_ : PySem.W.codeIn K cd_law_shown "_law_shown" = true) (k_law_shown : PySem.W.keepIn K (.ref f_law_shown) = true)
    (a_law_papers : PySem.W.nsIn K mainGlobals "_law_papers" = some (some (.ref f_law_papers)))
    (l_law_papers : K.lookup f_law_papers = some ⟨oc_law_papers, od_law_papers, .func (PySem.W.fnOf "_law_papers" "_law_papers" (defArgs s_law_papers) (defBody s_law_papers) (defScope s_law_papers) .none kV_law_papers dc_law_papers pm_law_papers an_law_papers cd_law_papers ct_law_papers), sl_law_papers⟩) (c_law_papers_ : PySem.W.codeIn K cd_law_papers "_law_papers" = true) (k_law_papers : PySem.W.keepIn K (.ref f_law_papers) = true)
    (a_law_judged : PySem.W.nsIn K mainGlobals "_law_judged" = some (some (.ref f_law_judged)))
    (l_law_judged : K.lookup f_law_judged = some ⟨oc_law_judged, od_law_judged, .func (PySem.W.fnOf "_law_judged" "_law_judged" (defArgs s_law_judged) (defBody s_law_judged) (defScope s_law_judged) .none kV_law_judged dc_law_judged pm_law_judged an_law_judged cd_law_judged ct_law_judged), sl_law_judged⟩) (c_law_judged_ : PySem.W.codeIn K cd_law_judged "_law_judged" = true) (k_law_judged : PySem.W.keepIn K (.ref f_law_judged) = true)
    (a_law_asked : PySem.W.nsIn K mainGlobals "_law_asked" = some (some (.ref f_law_asked)))
    (l_law_asked : K.lookup f_law_asked = some ⟨oc_law_asked, od_law_asked, .func (PySem.W.fnOf "_law_asked" "_law_asked" (defArgs s_law_asked) (defBody s_law_asked) (defScope s_law_asked) .none kV_law_asked dc_law_asked pm_law_asked an_law_asked cd_law_asked ct_law_asked), sl_law_asked⟩) (c_law_asked_ : PySem.W.codeIn K cd_law_asked "_law_asked" = true) (k_law_asked : PySem.W.keepIn K (.ref f_law_asked) = true)
    (a_law_more_lacks : PySem.W.nsIn K mainGlobals "_law_more_lacks" = some (some (.ref f_law_more_lacks)))
    (l_law_more_lacks : K.lookup f_law_more_lacks = some ⟨oc_law_more_lacks, od_law_more_lacks, .func (PySem.W.fnOf "_law_more_lacks" "_law_more_lacks" (defArgs s_law_more_lacks) (defBody s_law_more_lacks) (defScope s_law_more_lacks) .none kV_law_more_lacks dc_law_more_lacks pm_law_more_lacks an_law_more_lacks cd_law_more_lacks ct_law_more_lacks), sl_law_more_lacks⟩) (c_law_more_lacks_ : PySem.W.codeIn K cd_law_more_lacks "_law_more_lacks" = true) (k_law_more_lacks : PySem.W.keepIn K (.ref f_law_more_lacks) = true)
    (a_law : PySem.W.nsIn K mainGlobals "law" = some (some (.ref f_law)))
    (l_law : K.lookup f_law = some ⟨oc_law, od_law, .func (PySem.W.fnOf "law" "law" (defArgs s_law) (defBody s_law) (defScope s_law) .none kV_law dc_law pm_law an_law cd_law ct_law), sl_law⟩) (c_law_ : PySem.W.codeIn K cd_law "law" = true) (k_law : PySem.W.keepIn K (.ref f_law) = true)
    (a_GREATEST : PySem.W.nsIn K mainGlobals "GREATEST" = some (some (.int 9999 tk_GREATEST)))
    (z_bool_ : PySem.W.nsIn K mainGlobals "bool" = some none)
    (z_enumerate_ : PySem.W.nsIn K mainGlobals "enumerate" = some none)
    (z_int_ : PySem.W.nsIn K mainGlobals "int" = some none)
    (z_isinstance_ : PySem.W.nsIn K mainGlobals "isinstance" = some none)
    (z_len_ : PySem.W.nsIn K mainGlobals "len" = some none)
    (z_list_ : PySem.W.nsIn K mainGlobals "list" = some none)
    (z_max_ : PySem.W.nsIn K mainGlobals "max" = some none)
    (z_min_ : PySem.W.nsIn K mainGlobals "min" = some none)
    (z_range_ : PySem.W.nsIn K mainGlobals "range" = some none)
    (z_sorted_ : PySem.W.nsIn K mainGlobals "sorted" = some none)
    (z_str_ : PySem.W.nsIn K mainGlobals "str" = some none)
    (z_tuple_ : PySem.W.nsIn K mainGlobals "tuple" = some none)
    : ∃ fd : FuncData, (∀ (s : Shared) (v : Value), BindsTo s fd ⟨[v], []⟩ [("script", v)]) ∧ ∀ base : Heap, K.In base → base.Ns mainGlobals mg → FnOk l.prog w K mg base CX0 8 fa fd ["script"] (spLaw K) := by
  have e := hfa.symm.trans (PySem.W.mg_of X G a_law)
  cases e
  have T : Bi mg := ⟨PySem.W.mg_none_of X G z_bool_, PySem.W.mg_none_of X G z_enumerate_, PySem.W.mg_none_of X G z_int_, PySem.W.mg_none_of X G z_isinstance_, PySem.W.mg_none_of X G z_len_, PySem.W.mg_none_of X G z_list_, PySem.W.mg_none_of X G z_max_, PySem.W.mg_none_of X G z_min_, PySem.W.mg_none_of X G z_range_, PySem.W.mg_none_of X G z_sorted_, PySem.W.mg_none_of X G z_str_, PySem.W.mg_none_of X G z_tuple_⟩
  have g_GREATEST := PySem.W.mg_of X G a_GREATEST
  have F_ring_back := fun_mk (st := s_ring_back) l_ring_back c_ring_back_ k_ring_back
  have b_ring_back := F_ring_back.binds (ps := ["edges", "last", "node"]) fun _ _ _ _ _ _ us hl => match us, hl with | [_, _, _], _ => rfl
  have F_ring_among := fun_mk (st := s_ring_among) l_ring_among c_ring_among_ k_ring_among
  have b_ring_among := F_ring_among.binds (ps := ["edges", "last"]) fun _ _ _ _ _ _ us hl => match us, hl with | [_, _], _ => rfl
  have F_prices_or_ring := fun_mk (st := s_prices_or_ring) l_prices_or_ring c_prices_or_ring_ k_prices_or_ring
  have b_prices_or_ring := F_prices_or_ring.binds (ps := ["count", "edges"]) fun _ _ _ _ _ _ us hl => match us, hl with | [_, _], _ => rfl
  have F_edges_leaving := fun_mk (st := s_edges_leaving) l_edges_leaving c_edges_leaving_ k_edges_leaving
  have b_edges_leaving := F_edges_leaving.binds (ps := ["count", "edges", "prices"]) fun _ _ _ _ _ _ us hl => match us, hl with | [_, _, _], _ => rfl
  have F_next_layer := fun_mk (st := s_next_layer) l_next_layer c_next_layer_ k_next_layer
  have b_next_layer := F_next_layer.binds (ps := ["leaving", "layer", "best"]) fun _ _ _ _ _ _ us hl => match us, hl with | [_, _, _], _ => rfl
  have F_closed_walk := fun_mk (st := s_closed_walk) l_closed_walk c_closed_walk_ k_closed_walk
  have b_closed_walk := F_closed_walk.binds (ps := ["edges", "leaving", "start", "size"]) fun _ _ _ _ _ _ us hl => match us, hl with | [_, _, _, _], _ => rfl
  have F_short_ring := fun_mk (st := s_short_ring) l_short_ring c_short_ring_ k_short_ring
  have b_short_ring := F_short_ring.binds (ps := ["count", "edges"]) fun _ _ _ _ _ _ us hl => match us, hl with | [_, _], _ => rfl
  have F_tests_of := fun_mk (st := s_tests_of) l_tests_of c_tests_of_ k_tests_of
  have b_tests_of := F_tests_of.binds (ps := ["alternative"]) fun _ _ _ _ _ _ us hl => match us, hl with | [_], _ => rfl
  have F_names_of := fun_mk (st := s_names_of) l_names_of c_names_of_ k_names_of
  have b_names_of := F_names_of.binds (ps := ["alternative"]) fun _ _ _ _ _ _ us hl => match us, hl with | [_], _ => rfl
  have F_lacking_of := fun_mk (st := s_lacking_of) l_lacking_of c_lacking_of_ k_lacking_of
  have b_lacking_of := F_lacking_of.binds (ps := ["alternative"]) fun _ _ _ _ _ _ us hl => match us, hl with | [_], _ => rfl
  have F_pool_of := fun_mk (st := s_pool_of) l_pool_of c_pool_of_ k_pool_of
  have b_pool_of := F_pool_of.binds (ps := ["conditions", "known"]) fun _ _ _ _ _ _ us hl => match us, hl with | [_, _], _ => rfl
  have F_numbered := fun_mk (st := s_numbered) l_numbered c_numbered_ k_numbered
  have b_numbered := F_numbered.binds (ps := ["pool"]) fun _ _ _ _ _ _ us hl => match us, hl with | [_], _ => rfl
  have F_edges_of := fun_mk (st := s_edges_of) l_edges_of c_edges_of_ k_edges_of
  have b_edges_of := F_edges_of.binds (ps := ["pool", "numbers"]) fun _ _ _ _ _ _ us hl => match us, hl with | [_, _], _ => rfl
  have F_ring_of := fun_mk (st := s_ring_of) l_ring_of c_ring_of_ k_ring_of
  have b_ring_of := F_ring_of.binds (ps := ["pool"]) fun _ _ _ _ _ _ us hl => match us, hl with | [_], _ => rfl
  have F_ring_stands := fun_mk (st := s_ring_stands) l_ring_stands c_ring_stands_ k_ring_stands
  have b_ring_stands := F_ring_stands.binds (ps := ["pool", "ring"]) fun _ _ _ _ _ _ us hl => match us, hl with | [_, _], _ => rfl
  have F_tested_lacking := fun_mk (st := s_tested_lacking) l_tested_lacking c_tested_lacking_ k_tested_lacking
  have b_tested_lacking := F_tested_lacking.binds (ps := ["conditions"]) fun _ _ _ _ _ _ us hl => match us, hl with | [_], _ => rfl
  have F_clash_of := fun_mk (st := s_clash_of) l_clash_of c_clash_of_ k_clash_of
  have b_clash_of := F_clash_of.binds (ps := ["conditions"]) fun _ _ _ _ _ _ us hl => match us, hl with | [_], _ => rfl
  have F_shows_clash := fun_mk (st := s_shows_clash) l_shows_clash c_shows_clash_ k_shows_clash
  have b_shows_clash := F_shows_clash.binds (ps := ["conditions", "clash"]) fun _ _ _ _ _ _ us hl => match us, hl with | [_, _], _ => rfl
  have F_law_bag := fun_mk (st := sBag) l_law_bag c_law_bag_ k_law_bag
  have b_law_bag := F_law_bag.binds (ps := ["script"]) fun _ _ _ _ _ _ us hl => match us, hl with | [_], _ => rfl
  have F_law_draw := fun_mk (st := sDraw) l_law_draw c_law_draw_ k_law_draw
  have b_law_draw := F_law_draw.binds (ps := ["bag", "size"]) fun _ _ _ _ _ _ us hl => match us, hl with | [_, _], _ => rfl
  have F_law_name := fun_mk (st := s_law_name) l_law_name c_law_name_ k_law_name
  have b_law_name := F_law_name.binds (ps := ["bag", "taken"]) fun _ _ _ _ _ _ us hl => match us, hl with | [_, _], _ => rfl
  have F_law_names := fun_mk (st := s_law_names) l_law_names c_law_names_ k_law_names
  have b_law_names := F_law_names.binds (ps := ["bag", "count"]) fun _ _ _ _ _ _ us hl => match us, hl with | [_, _], _ => rfl
  have F_law_condition := fun_mk (st := s_law_condition) l_law_condition c_law_condition_ k_law_condition
  have b_law_condition := F_law_condition.binds (ps := ["bag", "attrs", "top"]) fun _ _ _ _ _ _ us hl => match us, hl with | [_, _, _], _ => rfl
  have F_law_used := fun_mk (st := s_law_used) l_law_used c_law_used_ k_law_used
  have b_law_used := F_law_used.binds (ps := ["alternative"]) fun _ _ _ _ _ _ us hl => match us, hl with | [_], _ => rfl
  have F_law_lacked := fun_mk (st := s_law_lacked) l_law_lacked c_law_lacked_ k_law_lacked
  have b_law_lacked := F_law_lacked.binds (ps := ["alternative"]) fun _ _ _ _ _ _ us hl => match us, hl with | [_], _ => rfl
  have F_law_closed := fun_mk (st := s_law_closed) l_law_closed c_law_closed_ k_law_closed
  have b_law_closed := F_law_closed.binds (ps := ["tests", "names"]) fun _ _ _ _ _ _ us hl => match us, hl with | [_, _], _ => rfl
  have F_law_student := fun_mk (st := s_law_student) l_law_student c_law_student_ k_law_student
  have b_law_student := F_law_student.binds (ps := ["bag", "names", "top"]) fun _ _ _ _ _ _ us hl => match us, hl with | [_, _, _], _ => rfl
  have F_law_between := fun_mk (st := s_law_between) l_law_between c_law_between_ k_law_between
  have b_law_between := F_law_between.binds (ps := ["student", "x", "y", "slack"]) fun _ _ _ _ _ _ us hl => match us, hl with | [_, _, _, _], _ => rfl
  have F_law_round := fun_mk (st := s_law_round) l_law_round c_law_round_ k_law_round
  have b_law_round := F_law_round.binds (ps := ["bag", "words", "student"]) fun _ _ _ _ _ _ us hl => match us, hl with | [_, _, _], _ => rfl
  have F_law_no_bound := fun_mk (st := s_law_no_bound) l_law_no_bound c_law_no_bound_ k_law_no_bound
  have b_law_no_bound := F_law_no_bound.binds (ps := ["test"]) fun _ _ _ _ _ _ us hl => match us, hl with | [_], _ => rfl
  have F_law_alternative := fun_mk (st := s_law_alternative) l_law_alternative c_law_alternative_ k_law_alternative
  have b_law_alternative := F_law_alternative.binds (ps := ["bag", "names", "top", "student"]) fun _ _ _ _ _ _ us hl => match us, hl with | [_, _, _, _], _ => rfl
  have F_law_pool := fun_mk (st := s_law_pool) l_law_pool c_law_pool_ k_law_pool
  have b_law_pool := F_law_pool.binds (ps := ["conditions"]) fun _ _ _ _ _ _ us hl => match us, hl with | [_], _ => rfl
  have F_law_shortest := fun_mk (st := s_law_shortest) l_law_shortest c_law_shortest_ k_law_shortest
  have b_law_shortest := F_law_shortest.binds (ps := ["pool"]) fun _ _ _ _ _ _ us hl => match us, hl with | [_], _ => rfl
  have F_law_is_test := fun_mk (st := s_law_is_test) l_law_is_test c_law_is_test_ k_law_is_test
  have b_law_is_test := F_law_is_test.binds (ps := ["test"]) fun _ _ _ _ _ _ us hl => match us, hl with | [_], _ => rfl
  have F_law_ring := fun_mk (st := s_law_ring) l_law_ring c_law_ring_ k_law_ring
  have b_law_ring := F_law_ring.binds (ps := ["pool", "ring"]) fun _ _ _ _ _ _ us hl => match us, hl with | [_, _], _ => rfl
  have F_law_due := fun_mk (st := s_law_due) l_law_due c_law_due_ k_law_due
  have b_law_due := F_law_due.binds (ps := ["conditions"]) fun _ _ _ _ _ _ us hl => match us, hl with | [_], _ => rfl
  have F_law_right := fun_mk (st := s_law_right) l_law_right c_law_right_ k_law_right
  have b_law_right := F_law_right.binds (ps := ["conditions", "due", "told"]) fun _ _ _ _ _ _ us hl => match us, hl with | [_, _, _], _ => rfl
  have F_law_shown := fun_mk (st := s_law_shown) l_law_shown c_law_shown_ k_law_shown
  have b_law_shown := F_law_shown.binds (ps := ["conditions", "pool", "paper"]) fun _ _ _ _ _ _ us hl => match us, hl with | [_, _, _], _ => rfl
  have F_law_papers := fun_mk (st := s_law_papers) l_law_papers c_law_papers_ k_law_papers
  have b_law_papers := F_law_papers.binds (ps := ["bag", "conditions", "names"]) fun _ _ _ _ _ _ us hl => match us, hl with | [_, _, _], _ => rfl
  have F_law_judged := fun_mk (st := s_law_judged) l_law_judged c_law_judged_ k_law_judged
  have b_law_judged := F_law_judged.binds (ps := ["conditions", "pool", "paper"]) fun _ _ _ _ _ _ us hl => match us, hl with | [_, _, _], _ => rfl
  have F_law_asked := fun_mk (st := s_law_asked) l_law_asked c_law_asked_ k_law_asked
  have b_law_asked := F_law_asked.binds (ps := ["conditions", "papers"]) fun _ _ _ _ _ _ us hl => match us, hl with | [_, _], _ => rfl
  have F_law_more_lacks := fun_mk (st := s_law_more_lacks) l_law_more_lacks c_law_more_lacks_ k_law_more_lacks
  have b_law_more_lacks := F_law_more_lacks.binds (ps := ["bag", "conditions", "names"]) fun _ _ _ _ _ _ us hl => match us, hl with | [_, _, _], _ => rfl
  have F_law := fun_mk (st := s_law) l_law c_law_ k_law
  have b_law := F_law.binds (ps := ["script"]) fun _ _ _ _ _ _ us hl => match us, hl with | [_], _ => rfl
  refine ⟨PySem.W.fnOf "law" "law" (defArgs s_law) (defBody s_law) (defScope s_law) .none kV_law dc_law pm_law an_law cd_law ct_law, fun s v => .of_eq rfl, fun base kin ns => ?_⟩
  have c_law_draw : Cal l.prog w K mg base "_law_draw" 1 ["bag", "size"] (.own 0) [] wDraw := ⟨⟨_, _, [], [], (ok_draw F_law_draw T.int_ T.len_), PySem.W.mg_of X G a_law_draw, k_law_draw, b_law_draw, .nil, fun _ => .nil⟩⟩
  have c_law_condition : Cal l.prog w K mg base "_law_condition" 2 ["bag", "attrs", "top"] (.own 0) [] w_law_condition := ⟨⟨_, _, [], [], (ok_law_condition F_law_condition T  c_law_draw), PySem.W.mg_of X G a_law_condition, k_law_condition, b_law_condition, .nil, fun _ => .nil⟩⟩
  have c_law_no_bound : Cal l.prog w K mg base "_law_no_bound" 1 ["test"] (.own 0) [] w_law_no_bound := ⟨⟨_, _, [], [], (ok_law_no_bound F_law_no_bound T  ), PySem.W.mg_of X G a_law_no_bound, k_law_no_bound, b_law_no_bound, .nil, fun _ => .nil⟩⟩
  have c_law_between : Cal l.prog w K mg base "_law_between" 1 ["student", "x", "y", "slack"] (.own 0) [] w_law_between := ⟨⟨_, _, [], [], (ok_law_between F_law_between T  ), PySem.W.mg_of X G a_law_between, k_law_between, b_law_between, .nil, fun _ => .nil⟩⟩
  have c_law_round : Cal l.prog w K mg base "_law_round" 2 ["bag", "words", "student"] (.own 0) [] w_law_round := ⟨⟨_, _, [], [], (ok_law_round F_law_round T  c_law_between c_law_draw), PySem.W.mg_of X G a_law_round, k_law_round, b_law_round, .nil, fun _ => .nil⟩⟩
  have c_law_alternative : Cal l.prog w K mg base "_law_alternative" 3 ["bag", "names", "top", "student"] (.own 0) [] w_law_alternative := ⟨⟨_, _, [], [], (ok_law_alternative F_law_alternative T  c_law_condition c_law_draw c_law_no_bound c_law_round), PySem.W.mg_of X G a_law_alternative, k_law_alternative, b_law_alternative, .nil, fun _ => .nil⟩⟩
  have c_law_closed : Cal l.prog w K mg base "_law_closed" 1 ["tests", "names"] (.own 0) [] w_law_closed := ⟨⟨_, _, [], [], (ok_law_closed F_law_closed T  ), PySem.W.mg_of X G a_law_closed, k_law_closed, b_law_closed, .nil, fun _ => .nil⟩⟩
  have c_law_lacked : Cal l.prog w K mg base "_law_lacked" 1 ["alternative"] (.own 0) [] w_law_lacked := ⟨⟨_, _, [], [], (ok_law_lacked F_law_lacked T  ), PySem.W.mg_of X G a_law_lacked, k_law_lacked, b_law_lacked, .nil, fun _ => .nil⟩⟩
  have c_law_used : Cal l.prog w K mg base "_law_used" 1 ["alternative"] (.own 0) [] w_law_used := ⟨⟨_, _, [], [], (ok_law_used F_law_used T  ), PySem.W.mg_of X G a_law_used, k_law_used, b_law_used, .nil, fun _ => .nil⟩⟩
  have c_law_pool : Cal l.prog w K mg base "_law_pool" 2 ["conditions"] (.own 0) [] w_law_pool := ⟨⟨_, _, [], [], (ok_law_pool F_law_pool T  c_law_used), PySem.W.mg_of X G a_law_pool, k_law_pool, b_law_pool, .nil, fun _ => .nil⟩⟩
  have c_law_shortest : Cal l.prog w K mg base "_law_shortest" 1 ["pool"] (.own 0) [] w_law_shortest := ⟨⟨_, _, [], [], (ok_law_shortest F_law_shortest T  ), PySem.W.mg_of X G a_law_shortest, k_law_shortest, b_law_shortest, .nil, fun _ => .nil⟩⟩
  have c_law_due : Cal l.prog w K mg base "_law_due" 3 ["conditions"] (.own 0) [] w_law_due := ⟨⟨_, _, [], [], (ok_law_due F_law_due T  c_law_closed c_law_lacked c_law_pool c_law_shortest c_law_used), PySem.W.mg_of X G a_law_due, k_law_due, b_law_due, .nil, fun _ => .nil⟩⟩
  have c_law_is_test : Cal l.prog w K mg base "_law_is_test" 1 ["test"] (.own 0) [] w_law_is_test := ⟨⟨_, _, [], [], (ok_law_is_test F_law_is_test T  ), PySem.W.mg_of X G a_law_is_test, k_law_is_test, b_law_is_test, .nil, fun _ => .nil⟩⟩
  have c_law_ring : Cal l.prog w K mg base "_law_ring" 2 ["pool", "ring"] (.own 0) [] w_law_ring := ⟨⟨_, _, [], [], (ok_law_ring F_law_ring T  c_law_is_test), PySem.W.mg_of X G a_law_ring, k_law_ring, b_law_ring, .nil, fun _ => .nil⟩⟩
  have c_law_shown : Cal l.prog w K mg base "_law_shown" 3 ["conditions", "pool", "paper"] (.own 0) [] w_law_shown := ⟨⟨_, _, [], [], (ok_law_shown F_law_shown T  c_law_lacked c_law_ring c_law_used), PySem.W.mg_of X G a_law_shown, k_law_shown, b_law_shown, .nil, fun _ => .nil⟩⟩
  have c_lacking_of : Cal l.prog w K mg base "lacking_of" 1 ["alternative"] (.own 0) [] w_lacking_of := ⟨⟨_, _, [], [], (ok_lacking_of F_lacking_of T  ), PySem.W.mg_of X G a_lacking_of, k_lacking_of, b_lacking_of, .nil, fun _ => .nil⟩⟩
  have c_tests_of : Cal l.prog w K mg base "tests_of" 1 ["alternative"] (.own 1) [] w_tests_of := ⟨⟨_, _, [], [], (ok_tests_of F_tests_of T  ), PySem.W.mg_of X G a_tests_of, k_tests_of, b_tests_of, .nil, fun _ => .nil⟩⟩
  have c_names_of : Cal l.prog w K mg base "names_of" 2 ["alternative"] (.own 0) [] w_names_of := ⟨⟨_, _, [], [], (ok_names_of F_names_of T  c_tests_of), PySem.W.mg_of X G a_names_of, k_names_of, b_names_of, .nil, fun _ => .nil⟩⟩
  have c_pool_of : Cal l.prog w K mg base "pool_of" 2 ["conditions", "known"] (.own 0) [] w_pool_of := ⟨⟨_, _, [], [], (ok_pool_of F_pool_of T g_GREATEST c_tests_of), PySem.W.mg_of X G a_pool_of, k_pool_of, b_pool_of, .nil, fun _ => .nil⟩⟩
  have c_ring_stands : Cal l.prog w K mg base "ring_stands" 1 ["pool", "ring"] (.own 0) [] w_ring_stands := ⟨⟨_, _, [], [], (ok_ring_stands F_ring_stands T  ), PySem.W.mg_of X G a_ring_stands, k_ring_stands, b_ring_stands, .nil, fun _ => .nil⟩⟩
  have c_shows_clash : Cal l.prog w K mg base "shows_clash" 3 ["conditions", "clash"] (.own 0) [] w_shows_clash := ⟨⟨_, _, [], [], (ok_shows_clash F_shows_clash T  c_lacking_of c_names_of c_pool_of c_ring_stands), PySem.W.mg_of X G a_shows_clash, k_shows_clash, b_shows_clash, .nil, fun _ => .nil⟩⟩
  have c_law_judged : Cal l.prog w K mg base "_law_judged" 4 ["conditions", "pool", "paper"] (.own 0) [] w_law_judged := ⟨⟨_, _, [], [], (ok_law_judged F_law_judged T  c_law_shown c_shows_clash), PySem.W.mg_of X G a_law_judged, k_law_judged, b_law_judged, .nil, fun _ => .nil⟩⟩
  have c_law_right : Cal l.prog w K mg base "_law_right" 3 ["conditions", "due", "told"] (.own 0) [] w_law_right := ⟨⟨_, _, [], [], (ok_law_right F_law_right T  c_law_pool c_law_ring), PySem.W.mg_of X G a_law_right, k_law_right, b_law_right, .nil, fun _ => .nil⟩⟩
  have c_edges_of : Cal l.prog w K mg base "edges_of" 1 ["pool", "numbers"] (.own 0) [] w_edges_of := ⟨⟨_, _, [], [], (ok_edges_of F_edges_of T  ), PySem.W.mg_of X G a_edges_of, k_edges_of, b_edges_of, .nil, fun _ => .nil⟩⟩
  have c_numbered : Cal l.prog w K mg base "numbered" 1 ["pool"] (.own 0) [] w_numbered := ⟨⟨_, _, [], [], (ok_numbered F_numbered T  ), PySem.W.mg_of X G a_numbered, k_numbered, b_numbered, .nil, fun _ => .nil⟩⟩
  have c_next_layer : Cal l.prog w K mg base "next_layer" 1 ["leaving", "layer", "best"] (.own 1) [] w_next_layer := ⟨⟨_, _, [], [], (ok_next_layer F_next_layer T  ), PySem.W.mg_of X G a_next_layer, k_next_layer, b_next_layer, .nil, fun _ => .nil⟩⟩
  have c_closed_walk : Cal l.prog w K mg base "closed_walk" 2 ["edges", "leaving", "start", "size"] (.own 1) [] w_closed_walk := ⟨⟨_, _, [], [], (ok_closed_walk F_closed_walk T  c_next_layer), PySem.W.mg_of X G a_closed_walk, k_closed_walk, b_closed_walk, .nil, fun _ => .nil⟩⟩
  have c_edges_leaving : Cal l.prog w K mg base "edges_leaving" 1 ["count", "edges", "prices"] (.own 0) [] w_edges_leaving := ⟨⟨_, _, [], [], (ok_edges_leaving F_edges_leaving T  ), PySem.W.mg_of X G a_edges_leaving, k_edges_leaving, b_edges_leaving, .nil, fun _ => .nil⟩⟩
  have c_ring_back : Cal l.prog w K mg base "ring_back" 1 ["edges", "last", "node"] (.own 1) [] w_ring_back := ⟨⟨_, _, [], [], (ok_ring_back F_ring_back T  ), PySem.W.mg_of X G a_ring_back, k_ring_back, b_ring_back, .nil, fun _ => .nil⟩⟩
  have c_ring_among : Cal l.prog w K mg base "ring_among" 2 ["edges", "last"] (.own 1) [] w_ring_among := ⟨⟨_, _, [], [], (ok_ring_among F_ring_among T  c_ring_back), PySem.W.mg_of X G a_ring_among, k_ring_among, b_ring_among, .nil, fun _ => .nil⟩⟩
  have c_prices_or_ring : Cal l.prog w K mg base "prices_or_ring" 3 ["count", "edges"] (.own 2) [] w_prices_or_ring := ⟨⟨_, _, [], [], (ok_prices_or_ring F_prices_or_ring T  c_ring_among), PySem.W.mg_of X G a_prices_or_ring, k_prices_or_ring, b_prices_or_ring, .nil, fun _ => .nil⟩⟩
  have c_short_ring : Cal l.prog w K mg base "short_ring" 4 ["count", "edges"] (.own 1) [] w_short_ring := ⟨⟨_, _, [], [], (ok_short_ring F_short_ring T  c_closed_walk c_edges_leaving c_next_layer c_prices_or_ring), PySem.W.mg_of X G a_short_ring, k_short_ring, b_short_ring, .nil, fun _ => .nil⟩⟩
  have c_ring_of : Cal l.prog w K mg base "ring_of" 5 ["pool"] (.own 1) [] w_ring_of := ⟨⟨_, _, [], [], (ok_ring_of F_ring_of T  c_edges_of c_numbered c_short_ring), PySem.W.mg_of X G a_ring_of, k_ring_of, b_ring_of, .nil, fun _ => .nil⟩⟩
  have c_tested_lacking : Cal l.prog w K mg base "tested_lacking" 3 ["conditions"] (.own 1) [] w_tested_lacking := ⟨⟨_, _, [], [], (ok_tested_lacking F_tested_lacking T  c_names_of), PySem.W.mg_of X G a_tested_lacking, k_tested_lacking, b_tested_lacking, .nil, fun _ => .nil⟩⟩
  have c_clash_of : Cal l.prog w K mg base "clash_of" 6 ["conditions"] (.own 2) [] w_clash_of := ⟨⟨_, _, [], [], (ok_clash_of F_clash_of T  c_names_of c_pool_of c_ring_of c_tested_lacking), PySem.W.mg_of X G a_clash_of, k_clash_of, b_clash_of, .nil, fun _ => .nil⟩⟩
  have c_law_asked : Cal l.prog w K mg base "_law_asked" 7 ["conditions", "papers"] (.own 0) [] w_law_asked := ⟨⟨_, _, [], [], (ok_law_asked F_law_asked T  c_law_due c_law_judged c_law_pool c_law_right c_clash_of c_shows_clash), PySem.W.mg_of X G a_law_asked, k_law_asked, b_law_asked, .nil, fun _ => .nil⟩⟩
  have c_law_more_lacks : Cal l.prog w K mg base "_law_more_lacks" 2 ["bag", "conditions", "names"] (.own 0) [] w_law_more_lacks := ⟨⟨_, _, [], [], (ok_law_more_lacks F_law_more_lacks T  c_law_draw c_law_used), PySem.W.mg_of X G a_law_more_lacks, k_law_more_lacks, b_law_more_lacks, .nil, fun _ => .nil⟩⟩
  have c_law_name : Cal l.prog w K mg base "_law_name" 2 ["bag", "taken"] (.own 0) [] w_law_name := ⟨⟨_, _, [], [], (ok_law_name F_law_name T  c_law_draw), PySem.W.mg_of X G a_law_name, k_law_name, b_law_name, .nil, fun _ => .nil⟩⟩
  have c_law_names : Cal l.prog w K mg base "_law_names" 3 ["bag", "count"] (.own 0) [] w_law_names := ⟨⟨_, _, [], [], (ok_law_names F_law_names T  c_law_name), PySem.W.mg_of X G a_law_names, k_law_names, b_law_names, .nil, fun _ => .nil⟩⟩
  have c_law_papers : Cal l.prog w K mg base "_law_papers" 3 ["bag", "conditions", "names"] (.own 0) [] w_law_papers := ⟨⟨_, _, [], [], (ok_law_papers F_law_papers T  c_law_draw c_law_lacked c_law_pool c_law_shortest), PySem.W.mg_of X G a_law_papers, k_law_papers, b_law_papers, .nil, fun _ => .nil⟩⟩
  have c_law_student : Cal l.prog w K mg base "_law_student" 2 ["bag", "names", "top"] (.own 0) [] w_law_student := ⟨⟨_, _, [], [], (ok_law_student F_law_student T  c_law_draw), PySem.W.mg_of X G a_law_student, k_law_student, b_law_student, .nil, fun _ => .nil⟩⟩
  exact ok_law F_law T (ok_bag F_law_bag T.int_ T.len_ T.list_) (PySem.W.mg_of X G a_law_bag) k_law_bag b_law_bag c_law_alternative c_law_asked c_law_between c_law_draw c_law_judged c_law_more_lacks c_law_names c_law_papers c_law_pool c_law_shortest c_law_student
end GK
namespace GK
open PySem PySem.Spec PyProof.Rows L2
theorem walk {l : PySem.W.OpenLaw} {q : Program} {loose : List Str} {XP : (Str → Option Value) → Heap → Prop} {YP : World → Heap → Prop} {d : DefRec} {K : Params → PySem.W.Frag} (hn : l.most = some 63) (hdf : d.params.defaults = [])
    (hY : ∀ (w : World) (h : Heap), YP w h → (K w.params).In h)
    (F : ∀ (w : World) (mg : Str → Option Value) (fa : Addr) (h : Heap), (K w.params).In h → h.Ns mainGlobals mg → mg d.name = some (.ref fa) →
      ∃ fd : FuncData, (∀ (s : Shared) (u : Value), BindsTo s fd ⟨[u], []⟩ [("script", u)]) ∧ ∀ base : Heap, (K w.params).In base → base.Ns mainGlobals mg → FnOk l.prog w (K w.params) mg base CX0 8 fa fd ["script"] (spLaw (K w.params))) :
    PySem.W.WalkO q loose XP YP l.row.toRowW d [] (fun f vs => PySem.call f vs) :=
  L2.walk_of (n := 63) (k := 8) (x := "script") (CX := fun _ => CX0) (sp := fun w => spLaw (K w.params)) hn (by decide) hdf ⟨rfl, by decide, by decide⟩ hY F (fun _ H a ns hl hO hS => ⟨a, ns, rfl, hS, hl, hO, fun _ => rfl⟩) fun _ _ _ _ _ z => z
end GK
open PySem PySem.W PyProof.Rows in
set_option maxRecDepth 100000 in
set_option maxHeartbeats 0 in
theorem PySem.Challenge.cw_giftskept_k08_clash_of_an_alternative_holds : PySem.Challenge.rw_giftskept_k08_clash_of_an_alternative.Holds := by
  w_on; o_law; k_head; (case hw => w_witness2)
  k_fill
  refine GK.walk (l := PySem.Challenge.rw_giftskept_k08_clash_of_an_alternative) rfl rfl (fun w h Y => PySem.W.kIn_of Y) ?F
  case F =>
    intro w mg fa h KX G hmg
    refine' GK.all_mk KX G hmg ?a_ring_back ?l_ring_back ?c_ring_back_ ?k_ring_back ?a_ring_among ?l_ring_among ?c_ring_among_ ?k_ring_among ?a_prices_or_ring ?l_prices_or_ring ?c_prices_or_ring_ ?k_prices_or_ring ?a_edges_leaving ?l_edges_leaving ?c_edges_leaving_ ?k_edges_leaving ?a_next_layer ?l_next_layer ?c_next_layer_ ?k_next_layer ?a_closed_walk ?l_closed_walk ?c_closed_walk_ ?k_closed_walk ?a_short_ring ?l_short_ring ?c_short_ring_ ?k_short_ring ?a_tests_of ?l_tests_of ?c_tests_of_ ?k_tests_of ?a_names_of ?l_names_of ?c_names_of_ ?k_names_of ?a_lacking_of ?l_lacking_of ?c_lacking_of_ ?k_lacking_of ?a_pool_of ?l_pool_of ?c_pool_of_ ?k_pool_of ?a_numbered ?l_numbered ?c_numbered_ ?k_numbered ?a_edges_of ?l_edges_of ?c_edges_of_ ?k_edges_of ?a_ring_of ?l_ring_of ?c_ring_of_ ?k_ring_of ?a_ring_stands ?l_ring_stands ?c_ring_stands_ ?k_ring_stands ?a_tested_lacking ?l_tested_lacking ?c_tested_lacking_ ?k_tested_lacking ?a_clash_of ?l_clash_of ?c_clash_of_ ?k_clash_of ?a_shows_clash ?l_shows_clash ?c_shows_clash_ ?k_shows_clash ?a_law_bag ?l_law_bag ?c_law_bag_ ?k_law_bag ?a_law_draw ?l_law_draw ?c_law_draw_ ?k_law_draw ?a_law_name ?l_law_name ?c_law_name_ ?k_law_name ?a_law_names ?l_law_names ?c_law_names_ ?k_law_names ?a_law_condition ?l_law_condition ?c_law_condition_ ?k_law_condition ?a_law_used ?l_law_used ?c_law_used_ ?k_law_used ?a_law_lacked ?l_law_lacked ?c_law_lacked_ ?k_law_lacked ?a_law_closed ?l_law_closed ?c_law_closed_ ?k_law_closed ?a_law_student ?l_law_student ?c_law_student_ ?k_law_student ?a_law_between ?l_law_between ?c_law_between_ ?k_law_between ?a_law_round ?l_law_round ?c_law_round_ ?k_law_round ?a_law_no_bound ?l_law_no_bound ?c_law_no_bound_ ?k_law_no_bound ?a_law_alternative ?l_law_alternative ?c_law_alternative_ ?k_law_alternative ?a_law_pool ?l_law_pool ?c_law_pool_ ?k_law_pool ?a_law_shortest ?l_law_shortest ?c_law_shortest_ ?k_law_shortest ?a_law_is_test ?l_law_is_test ?c_law_is_test_ ?k_law_is_test ?a_law_ring ?l_law_ring ?c_law_ring_ ?k_law_ring ?a_law_due ?l_law_due ?c_law_due_ ?k_law_due ?a_law_right ?l_law_right ?c_law_right_ ?k_law_right ?a_law_shown ?l_law_shown ?c_law_shown_ ?k_law_shown ?a_law_papers ?l_law_papers ?c_law_papers_ ?k_law_papers ?a_law_judged ?l_law_judged ?c_law_judged_ ?k_law_judged ?a_law_asked ?l_law_asked ?c_law_asked_ ?k_law_asked ?a_law_more_lacks ?l_law_more_lacks ?c_law_more_lacks_ ?k_law_more_lacks ?a_law ?l_law ?c_law_ ?k_law ?a_GREATEST ?z_bool_ ?z_enumerate_ ?z_int_ ?z_isinstance_ ?z_len_ ?z_list_ ?z_max_ ?z_min_ ?z_range_ ?z_sorted_ ?z_str_ ?z_tuple_
    (case a_ring_back => k_is)
    (case l_ring_back => k_is)
    (case c_ring_back_ => k_is)
    (case k_ring_back => k_is)
    (case a_ring_among => k_is)
    (case l_ring_among => k_is)
    (case c_ring_among_ => k_is)
    (case k_ring_among => k_is)
    (case a_prices_or_ring => k_is)
    (case l_prices_or_ring => k_is)
    (case c_prices_or_ring_ => k_is)
    (case k_prices_or_ring => k_is)
    (case a_edges_leaving => k_is)
    (case l_edges_leaving => k_is)
    (case c_edges_leaving_ => k_is)
    (case k_edges_leaving => k_is)
    (case a_next_layer => k_is)
    (case l_next_layer => k_is)
    (case c_next_layer_ => k_is)
    (case k_next_layer => k_is)
    (case a_closed_walk => k_is)
    (case l_closed_walk => k_is)
    (case c_closed_walk_ => k_is)
    (case k_closed_walk => k_is)
    (case a_short_ring => k_is)
    (case l_short_ring => k_is)
    (case c_short_ring_ => k_is)
    (case k_short_ring => k_is)
    (case a_tests_of => k_is)
    (case l_tests_of => k_is)
    (case c_tests_of_ => k_is)
    (case k_tests_of => k_is)
    (case a_names_of => k_is)
    (case l_names_of => k_is)
    (case c_names_of_ => k_is)
    (case k_names_of => k_is)
    (case a_lacking_of => k_is)
    (case l_lacking_of => k_is)
    (case c_lacking_of_ => k_is)
    (case k_lacking_of => k_is)
    (case a_pool_of => k_is)
    (case l_pool_of => k_is)
    (case c_pool_of_ => k_is)
    (case k_pool_of => k_is)
    (case a_numbered => k_is)
    (case l_numbered => k_is)
    (case c_numbered_ => k_is)
    (case k_numbered => k_is)
    (case a_edges_of => k_is)
    (case l_edges_of => k_is)
    (case c_edges_of_ => k_is)
    (case k_edges_of => k_is)
    (case a_ring_of => k_is)
    (case l_ring_of => k_is)
    (case c_ring_of_ => k_is)
    (case k_ring_of => k_is)
    (case a_ring_stands => k_is)
    (case l_ring_stands => k_is)
    (case c_ring_stands_ => k_is)
    (case k_ring_stands => k_is)
    (case a_tested_lacking => k_is)
    (case l_tested_lacking => k_is)
    (case c_tested_lacking_ => k_is)
    (case k_tested_lacking => k_is)
    (case a_clash_of => k_is)
    (case l_clash_of => k_is)
    (case c_clash_of_ => k_is)
    (case k_clash_of => k_is)
    (case a_shows_clash => k_is)
    (case l_shows_clash => k_is)
    (case c_shows_clash_ => k_is)
    (case k_shows_clash => k_is)
    (case a_law_bag => k_is)
    (case l_law_bag => k_is)
    (case c_law_bag_ => k_is)
    (case k_law_bag => k_is)
    (case a_law_draw => k_is)
    (case l_law_draw => k_is)
    (case c_law_draw_ => k_is)
    (case k_law_draw => k_is)
    (case a_law_name => k_is)
    (case l_law_name => k_is)
    (case c_law_name_ => k_is)
    (case k_law_name => k_is)
    (case a_law_names => k_is)
    (case l_law_names => k_is)
    (case c_law_names_ => k_is)
    (case k_law_names => k_is)
    (case a_law_condition => k_is)
    (case l_law_condition => k_is)
    (case c_law_condition_ => k_is)
    (case k_law_condition => k_is)
    (case a_law_used => k_is)
    (case l_law_used => k_is)
    (case c_law_used_ => k_is)
    (case k_law_used => k_is)
    (case a_law_lacked => k_is)
    (case l_law_lacked => k_is)
    (case c_law_lacked_ => k_is)
    (case k_law_lacked => k_is)
    (case a_law_closed => k_is)
    (case l_law_closed => k_is)
    (case c_law_closed_ => k_is)
    (case k_law_closed => k_is)
    (case a_law_student => k_is)
    (case l_law_student => k_is)
    (case c_law_student_ => k_is)
    (case k_law_student => k_is)
    (case a_law_between => k_is)
    (case l_law_between => k_is)
    (case c_law_between_ => k_is)
    (case k_law_between => k_is)
    (case a_law_round => k_is)
    (case l_law_round => k_is)
    (case c_law_round_ => k_is)
    (case k_law_round => k_is)
    (case a_law_no_bound => k_is)
    (case l_law_no_bound => k_is)
    (case c_law_no_bound_ => k_is)
    (case k_law_no_bound => k_is)
    (case a_law_alternative => k_is)
    (case l_law_alternative => k_is)
    (case c_law_alternative_ => k_is)
    (case k_law_alternative => k_is)
    (case a_law_pool => k_is)
    (case l_law_pool => k_is)
    (case c_law_pool_ => k_is)
    (case k_law_pool => k_is)
    (case a_law_shortest => k_is)
    (case l_law_shortest => k_is)
    (case c_law_shortest_ => k_is)
    (case k_law_shortest => k_is)
    (case a_law_is_test => k_is)
    (case l_law_is_test => k_is)
    (case c_law_is_test_ => k_is)
    (case k_law_is_test => k_is)
    (case a_law_ring => k_is)
    (case l_law_ring => k_is)
    (case c_law_ring_ => k_is)
    (case k_law_ring => k_is)
    (case a_law_due => k_is)
    (case l_law_due => k_is)
    (case c_law_due_ => k_is)
    (case k_law_due => k_is)
    (case a_law_right => k_is)
    (case l_law_right => k_is)
    (case c_law_right_ => k_is)
    (case k_law_right => k_is)
    (case a_law_shown => k_is)
    (case l_law_shown => k_is)
    (case c_law_shown_ => k_is)
    (case k_law_shown => k_is)
    (case a_law_papers => k_is)
    (case l_law_papers => k_is)
    (case c_law_papers_ => k_is)
    (case k_law_papers => k_is)
    (case a_law_judged => k_is)
    (case l_law_judged => k_is)
    (case c_law_judged_ => k_is)
    (case k_law_judged => k_is)
    (case a_law_asked => k_is)
    (case l_law_asked => k_is)
    (case c_law_asked_ => k_is)
    (case k_law_asked => k_is)
    (case a_law_more_lacks => k_is)
    (case l_law_more_lacks => k_is)
    (case c_law_more_lacks_ => k_is)
    (case k_law_more_lacks => k_is)
    (case a_law => k_is)
    (case l_law => k_is)
    (case c_law_ => k_is)
    (case k_law => k_is)
    (case a_GREATEST => k_is)
    (case z_bool_ => k_is)
    (case z_enumerate_ => k_is)
    (case z_int_ => k_is)
    (case z_isinstance_ => k_is)
    (case z_len_ => k_is)
    (case z_list_ => k_is)
    (case z_max_ => k_is)
    (case z_min_ => k_is)
    (case z_range_ => k_is)
    (case z_sorted_ => k_is)
    (case z_str_ => k_is)
    (case z_tuple_ => k_is)
#print axioms PySem.Challenge.cw_giftskept_k08_clash_of_an_alternative_holds

