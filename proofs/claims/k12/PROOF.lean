import PyProof.Rows.All
import Wide.All
import OpenK.AllK
import Wide.FinOn
import HandS.ForMost
import HandS.Flow
import HandS.IsInst
import HandS.Wide
import HandS.TupAny
import HandS.Deep
import HandS.Conv
import HandS.More
import HandS.Text
import KE.SortData
import HandS.DictComp
import HandS.Defaults
import HandS.Iter
import KE.GoesMore
import HandS.Style
import HandS.Finally
import HandS.TupLen
import PyProof.Rows.StrMeet
import HandS.TupLe
import HandS.OwnEq
import HandS.IterVal
import OpenK.KOps
import OpenK.KMeth
import KE.KOwnIter
import PyProof.Ascii
import KE.DataCmp
import KE.DatumOrd
import PyProof.EqKinds
import PyProof.NeKinds
import KE.DataEq
import HandS.OwnIter
import PySem.Challenge.RW_giftskept_k12_book_as_a_set
set_option Elab.async false
set_option linter.all false
set_option maxRecDepth 100000
set_option maxHeartbeats 4000000
namespace GK
open PySem PySem.Spec PyProof.Rows L2

/-! ### data, read through the heap -/
inductive D where
  | non | bl (b : Bool) | int (i : Int) | str (s : Str) | raw (v : V)
  | tup (xs : List D) | lst (xs : List D) | dK (kvs : List (Key × D)) | dT (kvs : List (List Key × D)) | obj (C : Addr) (fs : List (Str × D)) | kp (d : D)

abbrev Env := List (Option (Nat × D))
/-- a lock is not seen -/
def erO : HO → HO
  | .frz _ u => u
  | u => u
/-- what may be read: all but the bag -/
def rdH (B : List Addr) (H : Hp) : Hp := fun a => if a ∈ B then none else (H a).map erO
def isDct : HO → Prop
  | .dK _ => True
  | .dT _ => True
  | _ => False

/-- nothing -/
def noH : Hp := fun _ => none

mutual
inductive R (K : PySem.W.Frag) (F : Hp) : V → D → Prop where
  | non : R K F .non .non
  | bl (b : Bool) : R K F (.bl b) (.bl b)
  | int (i : Int) : R K F (.int i) (.int i)
  | str (s : Str) : R K F (.str s) (.str s)
  | raw (v : V) : R K F v (.raw v)
  | kp {v : V} {d : D} (h : R K F v d) : R K F v (.kp d)
  | tup {a : Addr} {vs : List V} {ds : List D} (h : F a = some (.tup vs)) (r : RL K F vs ds) : R K F (.ref a) (.tup ds)
  | lst {a : Addr} {vs : List V} {ds : List D} (h : F a = some (.lst vs)) (r : RL K F vs ds) : R K F (.ref a) (.lst ds)
  | dK {a : Addr} {kvs : List (Key × V)} {es : List (Key × D)} (h : F a = some (.dK kvs)) (hk : kvs.map (·.1) = es.map (·.1)) (r : RL K F (kvs.map (·.2)) (es.map (·.2))) : R K F (.ref a) (.dK es)
  | dT {a : Addr} {kvs : List (List Key × V)} {es : List (List Key × D)} (h : F a = some (.dT kvs)) (hk : kvs.map (·.1) = es.map (·.1)) (r : RL K F (kvs.map (·.2)) (es.map (·.2))) : R K F (.ref a) (.dT es)
  | obj {a C dx : Addr} {fs : List (Str × V)} {es : List (Str × D)} (h : F a = some (.ins C dx fs)) (hk : fs.map (·.1) = es.map (·.1)) (r : RL K F (fs.map (·.2)) (es.map (·.2))) : R K F (.ref a) (.obj C es)
inductive RL (K : PySem.W.Frag) (F : Hp) : List V → List D → Prop where
  | nil : RL K F [] []
  | cons {v : V} {d : D} {vs : List V} {ds : List D} (h : R K F v d) (t : RL K F vs ds) : RL K F (v :: vs) (d :: ds)
end

section
variable {K : PySem.W.Frag} {F F' H H' : Hp} {B : List Addr}
mutual
theorem R.mono {v : V} {d : D} (s : Same F F') : R K F v d → R K F' v d
  | .non => .non
  | .bl b => .bl b
  | .int i => .int i
  | .str x => .str x
  | .raw v => .raw v
  | .kp h => .kp (h.mono s)
  | .tup h r => .tup (s _ _ h) (r.mono s)
  | .lst h r => .lst (s _ _ h) (r.mono s)
  | .dK h hk r => .dK (s _ _ h) hk (r.mono s)
  | .dT h hk r => .dT (s _ _ h) hk (r.mono s)
  | .obj h hk r => .obj (s _ _ h) hk (r.mono s)
theorem RL.mono {vs : List V} {ds : List D} (s : Same F F') : RL K F vs ds → RL K F' vs ds
  | .nil => .nil
  | .cons h t => .cons (h.mono s) (t.mono s)
end
theorem RL.length {vs : List V} {ds : List D} : RL K F vs ds → vs.length = ds.length
  | .nil => rfl
  | .cons _ t => by rw [List.length_cons, List.length_cons, t.length]
theorem RL.append {vs ws : List V} {ds es : List D} : RL K F vs ds → RL K F ws es → RL K F (vs ++ ws) (ds ++ es)
  | .nil, s => s
  | .cons h t, s => .cons h (t.append s)
theorem RL.get {vs : List V} {ds : List D} : RL K F vs ds → ∀ {i : Nat} {d : D}, ds[i]? = some d → ∃ v, vs[i]? = some v ∧ R K F v d
  | .nil, _, _, e => by simp at e
  | .cons h t, 0, d, e => by
    have e' : _ = d := Option.some.inj e
    subst e'
    exact ⟨_, rfl, h⟩
  | .cons h t, i + 1, d, e => t.get (i := i) (d := d) e
theorem RL.getV {vs : List V} {ds : List D} : RL K F vs ds → ∀ {i : Nat} {v : V}, vs[i]? = some v → ∃ d, ds[i]? = some d ∧ R K F v d
  | .nil, _, _, e => by simp at e
  | .cons h t, 0, v, e => by
    have e' : _ = v := Option.some.inj e
    subst e'
    exact ⟨_, rfl, h⟩
  | .cons h t, i + 1, v, e => t.getV (i := i) (v := v) e
theorem RL.drop {vs : List V} {ds : List D} : RL K F vs ds → ∀ n : Nat, RL K F (vs.drop n) (ds.drop n)
  | h, 0 => h
  | .nil, n + 1 => .nil
  | .cons _ t, n + 1 => t.drop n
theorem RL.take {vs : List V} {ds : List D} : RL K F vs ds → ∀ n : Nat, RL K F (vs.take n) (ds.take n)
  | _, 0 => .nil
  | .nil, n + 1 => .nil
  | .cons h t, n + 1 => .cons h (t.take n)
theorem RL.set {vs : List V} {ds : List D} {v : V} {d : D} (q : R K F v d) : RL K F vs ds → ∀ n : Nat, RL K F (vs.set n v) (ds.set n d)
  | .nil, n => .nil
  | .cons h t, 0 => .cons q t
  | .cons h t, n + 1 => .cons h (t.set q n)
theorem RL.reverse {vs : List V} {ds : List D} : RL K F vs ds → RL K F vs.reverse ds.reverse
  | .nil => .nil
  | .cons h t => by
    rw [List.reverse_cons, List.reverse_cons]
    exact t.reverse.append (.cons h .nil)
theorem RL.eraseIdx {vs : List V} {ds : List D} : RL K F vs ds → ∀ n : Nat, RL K F (vs.eraseIdx n) (ds.eraseIdx n)
  | .nil, n => .nil
  | .cons h t, 0 => t
  | .cons h t, n + 1 => .cons h (t.eraseIdx n)
/-- what is read does not name the bag -/
theorem rdH_some {a : Addr} {u : HO} (e : rdH B H a = some u) : a ∉ B ∧ ∃ x, H a = some x ∧ erO x = u := by
  unfold rdH at e
  split at e
  · cases e
  · rename_i hb
    refine ⟨hb, ?_⟩
    cases q : H a with
    | none => rw [q] at e; cases e
    | some x =>
      rw [q] at e
      exact ⟨x, rfl, Option.some.inj e⟩
theorem rdH_of {a : Addr} {x u : HO} (hb : a ∉ B) (e : H a = some x) (n : erO x = u) : rdH B H a = some u := by
  unfold rdH
  rw [if_neg hb, e]
  exact congrArg some n
theorem rd_of_er {a : Addr} {x u : HO} (e : H a = some x) (n : erO x = u) : Rd H a u := by
  cases x <;> first | (left; rw [e]; exact congrArg some n) | skip
  rename_i o w
  right
  have n' : w = u := n
  exact ⟨o, by rw [e, n']⟩
theorem rd_of_rdH {a : Addr} {u : HO} (e : rdH B H a = some u) : Rd H a u := by
  obtain ⟨_, x, h, n⟩ := rdH_some e
  exact rd_of_er h n
theorem sqT_rd {a : Addr} {vs : List V} (h : rdH B H a = some (.tup vs)) : SqT K H a vs := .inl (rd_of_rdH h)
theorem sqL_rd {a : Addr} {vs : List V} (h : rdH B H a = some (.lst vs)) : SqL K H a vs := .inl (rd_of_rdH h)
theorem rdH_same {H H' : Hp} (s : ∀ a o, a ∉ B → H a = some o → H' a = some o) : Same (rdH B H) (rdH B H') := fun a u e => by
  obtain ⟨hb, x, h, n⟩ := rdH_some e
  exact rdH_of hb (s a x hb h) n

/-! ### what is owned -/
/-- the items of a node, each with its own addresses -/
def OwnL (P : V → D → List Addr → Prop) : List V → List D → List Addr → Prop
  | [], [], fp => fp = []
  | v :: vs, d :: ds, fp => ∃ f1 f2, fp = f1 ++ f2 ∧ P v d f1 ∧ OwnL P vs ds f2
  | _, _, _ => False
/-- v stands for d; the first n layers of its lists, dicts and instances are nobody else's, they stand at fp -/
def Own (K : PySem.W.Frag) (F H : Hp) : Nat → V → D → List Addr → Prop
  | 0, v, d, fp => R K F v d ∧ fp = []
  | n + 1, v, .lst ds, fp => ∃ a vs f, v = .ref a ∧ H a = some (.lst vs) ∧ fp = a :: f ∧ OwnL (Own K F H n) vs ds f
  | n + 1, v, .dK es, fp => ∃ a kvs f, v = .ref a ∧ H a = some (.dK kvs) ∧ fp = a :: f ∧ kvs.map (·.1) = es.map (·.1) ∧ OwnL (Own K F H n) (kvs.map (·.2)) (es.map (·.2)) f
  | n + 1, v, .dT es, fp => ∃ a kvs f, v = .ref a ∧ H a = some (.dT kvs) ∧ fp = a :: f ∧ kvs.map (·.1) = es.map (·.1) ∧ OwnL (Own K F H n) (kvs.map (·.2)) (es.map (·.2)) f
  | n + 1, v, .obj C es, fp => ∃ a dx fs f, v = .ref a ∧ H a = some (.ins C dx fs) ∧ fp = a :: f ∧ fs.map (·.1) = es.map (·.1) ∧ OwnL (Own K F H n) (fs.map (·.2)) (es.map (·.2)) f
  | n + 1, v, .tup ds, fp => ∃ a vs, v = .ref a ∧ F a = some (.tup vs) ∧ OwnL (Own K F H n) vs ds fp
  | _ + 1, v, d, fp => R K F v d ∧ fp = []
theorem OwnL.imp {P Q : V → D → List Addr → Prop} : ∀ {vs : List V} {ds : List D} {fp : List Addr}, OwnL P vs ds fp → (∀ v d f, (∀ a ∈ f, a ∈ fp) → P v d f → Q v d f) → OwnL Q vs ds fp
  | [], [], _, h, _ => h
  | v :: vs, d :: ds, fp, ⟨f1, f2, e, h, t⟩, k => ⟨f1, f2, e, k v d f1 (fun a ha => by rw [e]; exact List.mem_append_left _ ha) h,
      OwnL.imp t fun v d f hf => k v d f fun a ha => by rw [e]; exact List.mem_append_right _ (hf a ha)⟩
/-- what is owned stays while its addresses stay -/
theorem Own.mono (sF : Same F F') : ∀ {n : Nat} {v : V} {d : D} {fp : List Addr}, (∀ a ∈ fp, ∀ o, H a = some o → H' a = some o) → Own K F H n v d fp → Own K F' H' n v d fp
  | 0, v, d, fp, _, h => ⟨h.1.mono sF, h.2⟩
  | n + 1, v, .lst ds, fp, s, ⟨a, vs, f, e, h, ef, t⟩ => ⟨a, vs, f, e, s a (by rw [ef]; exact List.mem_cons_self) _ h, ef, t.imp fun v d g hg => Own.mono sF fun b hb => s b (by rw [ef]; exact List.mem_cons_of_mem _ (hg b hb))⟩
  | n + 1, v, .dK es, fp, s, ⟨a, vs, f, e, h, ef, ek, t⟩ => ⟨a, vs, f, e, s a (by rw [ef]; exact List.mem_cons_self) _ h, ef, ek, t.imp fun v d g hg => Own.mono sF fun b hb => s b (by rw [ef]; exact List.mem_cons_of_mem _ (hg b hb))⟩
  | n + 1, v, .dT es, fp, s, ⟨a, vs, f, e, h, ef, ek, t⟩ => ⟨a, vs, f, e, s a (by rw [ef]; exact List.mem_cons_self) _ h, ef, ek, t.imp fun v d g hg => Own.mono sF fun b hb => s b (by rw [ef]; exact List.mem_cons_of_mem _ (hg b hb))⟩
  | n + 1, v, .obj C es, fp, s, ⟨a, dx, vs, f, e, h, ef, ek, t⟩ => ⟨a, dx, vs, f, e, s a (by rw [ef]; exact List.mem_cons_self) _ h, ef, ek, t.imp fun v d g hg => Own.mono sF fun b hb => s b (by rw [ef]; exact List.mem_cons_of_mem _ (hg b hb))⟩
  | n + 1, v, .tup ds, fp, s, ⟨a, vs, e, h, t⟩ => ⟨a, vs, e, sF _ _ h, t.imp fun v d g hg => Own.mono sF fun b hb => s b (hg b hb)⟩
  | n + 1, v, .non, fp, s, h => ⟨h.1.mono sF, h.2⟩
  | n + 1, v, .bl _, fp, s, h => ⟨h.1.mono sF, h.2⟩
  | n + 1, v, .int _, fp, s, h => ⟨h.1.mono sF, h.2⟩
  | n + 1, v, .str _, fp, s, h => ⟨h.1.mono sF, h.2⟩
  | n + 1, v, .raw _, fp, s, h => ⟨h.1.mono sF, h.2⟩
  | n + 1, v, .kp _, fp, s, h => ⟨h.1.mono sF, h.2⟩
/-- what stands for the data in a heap that has all -/
theorem OwnL.toRL {P : V → D → List Addr → Prop} {G : Hp} : ∀ {vs : List V} {ds : List D} {fp : List Addr}, OwnL P vs ds fp → (∀ v d f, (∀ a ∈ f, a ∈ fp) → P v d f → R K G v d) → RL K G vs ds
  | [], [], _, _, _ => .nil
  | v :: vs, d :: ds, fp, ⟨f1, f2, e, h, t⟩, k => .cons (k v d f1 (fun a ha => by rw [e]; exact List.mem_append_left _ ha) h) (OwnL.toRL t fun v d f hf => k v d f fun a ha => by rw [e]; exact List.mem_append_right _ (hf a ha))
theorem Own.toR {G : Hp} (sF : Same F G) : ∀ {n : Nat} {v : V} {d : D} {fp : List Addr}, (∀ a ∈ fp, ∀ o, H a = some o → erO o = o → G a = some o) → Own K F H n v d fp → R K G v d
  | 0, v, d, fp, _, h => h.1.mono sF
  | n + 1, v, .lst ds, fp, s, ⟨a, vs, f, e, h, ef, t⟩ => by
    subst e
    exact .lst (s a (by rw [ef]; exact List.mem_cons_self) _ h rfl) (t.toRL fun v d g hg => Own.toR sF fun b hb => s b (by rw [ef]; exact List.mem_cons_of_mem _ (hg b hb)))
  | n + 1, v, .dK es, fp, s, ⟨a, vs, f, e, h, ef, ek, t⟩ => by
    subst e
    exact .dK (s a (by rw [ef]; exact List.mem_cons_self) _ h rfl) ek (t.toRL fun v d g hg => Own.toR sF fun b hb => s b (by rw [ef]; exact List.mem_cons_of_mem _ (hg b hb)))
  | n + 1, v, .dT es, fp, s, ⟨a, vs, f, e, h, ef, ek, t⟩ => by
    subst e
    exact .dT (s a (by rw [ef]; exact List.mem_cons_self) _ h rfl) ek (t.toRL fun v d g hg => Own.toR sF fun b hb => s b (by rw [ef]; exact List.mem_cons_of_mem _ (hg b hb)))
  | n + 1, v, .obj C es, fp, s, ⟨a, dx, vs, f, e, h, ef, ek, t⟩ => by
    subst e
    exact .obj (s a (by rw [ef]; exact List.mem_cons_self) _ h rfl) ek (t.toRL fun v d g hg => Own.toR sF fun b hb => s b (by rw [ef]; exact List.mem_cons_of_mem _ (hg b hb)))
  | n + 1, v, .tup ds, fp, s, ⟨a, vs, e, h, t⟩ => by
    subst e
    exact .tup (sF _ _ h) (t.toRL fun v d g hg => Own.toR sF fun b hb => s b (hg b hb))
  | n + 1, v, .non, fp, s, h => h.1.mono sF
  | n + 1, v, .bl _, fp, s, h => h.1.mono sF
  | n + 1, v, .int _, fp, s, h => h.1.mono sF
  | n + 1, v, .str _, fp, s, h => h.1.mono sF
  | n + 1, v, .raw _, fp, s, h => h.1.mono sF
  | n + 1, v, .kp _, fp, s, h => h.1.mono sF
theorem OwnL.there {P : V → D → List Addr → Prop} {p : Addr → Prop} : ∀ {vs : List V} {ds : List D} {fp : List Addr}, OwnL P vs ds fp → (∀ v d f, P v d f → ∀ a ∈ f, p a) → ∀ a ∈ fp, p a
  | [], [], _, h, _, a, ha => by rw [show _ = _ from h] at ha; cases ha
  | v :: vs, d :: ds, fp, ⟨f1, f2, e, h, t⟩, k, a, ha => by
    rw [e] at ha
    rcases List.mem_append.mp ha with z | z
    · exact k v d f1 h a z
    · exact OwnL.there t k a z
/-- what is owned stands in the heap -/
theorem Own.there : ∀ {n : Nat} {v : V} {d : D} {fp : List Addr}, Own K F H n v d fp → ∀ a ∈ fp, ∃ o, H a = some o ∧ Mut (some o)
  | 0, v, d, fp, h, a, ha => by rw [h.2] at ha; cases ha
  | n + 1, v, .lst ds, fp, ⟨a, vs, f, e, h, ef, t⟩, b, hb => by
    rw [ef] at hb
    rcases List.mem_cons.mp hb with z | z
    · exact ⟨HO.lst vs, by rw [z]; exact h, trivial⟩
    · exact t.there (fun v d f q => Own.there q) b z
  | n + 1, v, .dK es, fp, ⟨a, vs, f, e, h, ef, ek, t⟩, b, hb => by
    rw [ef] at hb
    rcases List.mem_cons.mp hb with z | z
    · exact ⟨HO.dK vs, by rw [z]; exact h, trivial⟩
    · exact t.there (fun v d f q => Own.there q) b z
  | n + 1, v, .dT es, fp, ⟨a, vs, f, e, h, ef, ek, t⟩, b, hb => by
    rw [ef] at hb
    rcases List.mem_cons.mp hb with z | z
    · exact ⟨HO.dT vs, by rw [z]; exact h, trivial⟩
    · exact t.there (fun v d f q => Own.there q) b z
  | n + 1, v, .obj C es, fp, ⟨a, dx, vs, f, e, h, ef, ek, t⟩, b, hb => by
    rw [ef] at hb
    rcases List.mem_cons.mp hb with z | z
    · exact ⟨HO.ins C dx vs, by rw [z]; exact h, trivial⟩
    · exact t.there (fun v d f q => Own.there q) b z
  | n + 1, v, .tup ds, fp, ⟨a, vs, e, h, t⟩, b, hb => t.there (fun v d f q => Own.there q) b hb
  | n + 1, v, .non, fp, h, a, ha => by rw [h.2] at ha; cases ha
  | n + 1, v, .bl _, fp, h, a, ha => by rw [h.2] at ha; cases ha
  | n + 1, v, .int _, fp, h, a, ha => by rw [h.2] at ha; cases ha
  | n + 1, v, .str _, fp, h, a, ha => by rw [h.2] at ha; cases ha
  | n + 1, v, .raw _, fp, h, a, ha => by rw [h.2] at ha; cases ha
  | n + 1, v, .kp _, fp, h, a, ha => by rw [h.2] at ha; cases ha
end

/-! ### data without lists, dicts and instances -/
mutual
def D.flat : D → Bool
  | .tup xs => flatL xs
  | .lst _ => false
  | .dK _ => false
  | .dT _ => false
  | .obj _ _ => false
  | .kp _ => false
  | _ => true
def flatL : List D → Bool
  | [] => true
  | d :: ds => d.flat && flatL ds
end
def isTup : HO → Prop
  | .tup _ => True
  | _ => False
mutual
theorem R.flat {K : PySem.W.Frag} {F G : Hp} (s : ∀ a vs, F a = some (.tup vs) → G a = some (.tup vs)) : ∀ {v : V} {d : D}, d.flat = true → R K F v d → R K G v d
  | _, _, _, .non => .non
  | _, _, _, .bl b => .bl b
  | _, _, _, .int i => .int i
  | _, _, _, .str x => .str x
  | _, _, _, .raw v => .raw v
  | _, _, e, .tup h r => .tup (s _ _ h) (RL.flat s (by simpa [D.flat] using e) r)
  | _, _, e, .lst h r => by simp [D.flat] at e
  | _, _, e, .dK h hk r => by simp [D.flat] at e
  | _, _, e, .dT h hk r => by simp [D.flat] at e
  | _, _, e, .obj h hk r => by simp [D.flat] at e
  | _, _, e, .kp h => by simp [D.flat] at e
theorem RL.flat {K : PySem.W.Frag} {F G : Hp} (s : ∀ a vs, F a = some (.tup vs) → G a = some (.tup vs)) : ∀ {vs : List V} {ds : List D}, flatL ds = true → RL K F vs ds → RL K G vs ds
  | _, _, _, .nil => .nil
  | _, _, e, .cons h t => by
    rw [flatL, Bool.and_eq_true] at e
    exact .cons (R.flat s e.1 h) (RL.flat s e.2 t)
end
/-- n layers, then flat -/
def flatN : Nat → D → Bool
  | 0, d => d.flat
  | n + 1, .lst ds => ds.all (flatN n)
  | n + 1, .dK es => es.all fun e => flatN n e.2
  | n + 1, .dT es => es.all fun e => flatN n e.2
  | n + 1, .obj _ es => es.all fun e => flatN n e.2
  | n + 1, .tup ds => ds.all (flatN n)
  | _ + 1, .kp _ => false
  | _ + 1, _ => true
section
variable {K : PySem.W.Frag} {F F' G H H' : Hp} {B : List Addr}
theorem OwnL.impD {P Q : V → D → List Addr → Prop} : ∀ {vs : List V} {ds : List D} {fp : List Addr}, OwnL P vs ds fp → (∀ v d f, d ∈ ds → P v d f → Q v d f) → OwnL Q vs ds fp
  | [], [], _, h, _ => h
  | v :: vs, d :: ds, fp, ⟨f1, f2, e, h, t⟩, k => ⟨f1, f2, e, k v d f1 List.mem_cons_self h, OwnL.impD t fun v d f hd => k v d f (List.mem_cons_of_mem _ hd)⟩
theorem all_snd {κ : Type} {es : List (κ × D)} {p : D → Bool} (h : (es.all fun e => p e.2) = true) : ∀ d ∈ es.map (·.2), p d = true := fun d hd => by
  obtain ⟨e, he, rfl⟩ := List.mem_map.mp hd
  exact List.all_eq_true.mp h e he
theorem Own.flat (s : ∀ a vs, F a = some (.tup vs) → G a = some (.tup vs)) : ∀ {n : Nat} {v : V} {d : D} {fp : List Addr}, flatN n d = true → Own K F H n v d fp → Own K G H n v d fp
  | 0, v, d, fp, e, h => ⟨h.1.flat s e, h.2⟩
  | n + 1, v, .lst ds, fp, e, ⟨a, vs, f, ev, h, ef, t⟩ => ⟨a, vs, f, ev, h, ef, t.impD fun v d g hd => Own.flat s (List.all_eq_true.mp e d hd)⟩
  | n + 1, v, .dK es, fp, e, ⟨a, vs, f, ev, h, ef, ek, t⟩ => ⟨a, vs, f, ev, h, ef, ek, t.impD fun v d g hd => Own.flat s (all_snd e d hd)⟩
  | n + 1, v, .dT es, fp, e, ⟨a, vs, f, ev, h, ef, ek, t⟩ => ⟨a, vs, f, ev, h, ef, ek, t.impD fun v d g hd => Own.flat s (all_snd e d hd)⟩
  | n + 1, v, .obj C es, fp, e, ⟨a, dx, vs, f, ev, h, ef, ek, t⟩ => ⟨a, dx, vs, f, ev, h, ef, ek, t.impD fun v d g hd => Own.flat s (all_snd e d hd)⟩
  | n + 1, v, .tup ds, fp, e, ⟨a, vs, ev, h, t⟩ => ⟨a, vs, ev, s _ _ h, t.impD fun v d g hd => Own.flat s (List.all_eq_true.mp e d hd)⟩
  | n + 1, v, .non, fp, e, h => ⟨h.1.flat s rfl, h.2⟩
  | n + 1, v, .bl _, fp, e, h => ⟨h.1.flat s rfl, h.2⟩
  | n + 1, v, .int _, fp, e, h => ⟨h.1.flat s rfl, h.2⟩
  | n + 1, v, .str _, fp, e, h => ⟨h.1.flat s rfl, h.2⟩
  | n + 1, v, .raw _, fp, e, h => ⟨h.1.flat s rfl, h.2⟩
  | n + 1, v, .kp _, fp, e, h => (nomatch e)
end

/-! ### the law's bag: its list, the cells, what is left of them, the script -/
def BagOk (B : List Addr) (H : Hp) : Prop :=
  B = [] ∨ ∃ (b c l : Addr) (ts : List Addr) (cells left : List Int) (turn : Int), B = b :: c :: l :: ts ∧ (∀ t ∈ ts, ∃ o xs, H t = some (.frz o (.lst xs))) ∧ H b = some (.lst [.ref c, .ref l, .int turn]) ∧ H c = some (.lst (cells.map V.int)) ∧ H l = some (.lst (left.map V.int)) ∧
    b ≠ c ∧ b ≠ l ∧ c ≠ l ∧ 0 ≤ turn ∧ 0 < cells.length ∧ cells.length ≤ 63 ∧ left.length = cells.length

structure WF (B : List Addr) (F H : Hp) : Prop where
  sub : Same F (rdH B H)
  lock : ∀ a o u, a ∉ B → H a = some (.frz o u) → isDct u
  bag : BagOk B H
/-- an expression: nothing that stood is changed but the bag; what may be read grows by what is new, by tuples and by A -/
structure Step (B A : List Addr) (F H F' H' : Hp) : Prop where
  same : ∀ a o, a ∉ B → H a = some o → H' a = some o
  fs : Same F F'
  fresh : ∀ a u, F' a = some u → F a = some u ∨ H a = none ∨ isTup u ∨ a ∈ A
  wf : WF B F' H'
def OwnE (K : PySem.W.Frag) (F H : Hp) : L2.St → Env → List Addr → Prop
  | [], [], fp => fp = []
  | _ :: σ, none :: ρ, fp => OwnE K F H σ ρ fp
  | some v :: σ, some (n, d) :: ρ, fp => ∃ f1 f2, fp = f1 ++ f2 ∧ Own K F H n v d f1 ∧ OwnE K F H σ ρ f2
  | _, _, _ => False
/-- the state of a def's body. Z0: what stands and stays; F0: what could be read at the start; Pn: the slots that keep their values -/
structure StOk (K : PySem.W.Frag) (B : List Addr) (Pn : List V) (Z0 F0 F H : Hp) (σ : L2.St) (ρ : Env) (fp : List Addr) : Prop where
  wf : WF B F H
  own : OwnE K F H σ ρ fp
  nd : fp.Nodup
  out : ∀ a ∈ fp, F a = none ∧ a ∉ B ∧ Z0 a = none
  z : Same Z0 H
  zB : ∀ a ∈ B, Z0 a = none
  f : Same F0 F
  fr : ∀ a u, F a = some u → F0 a = some u ∨ Z0 a = none ∨ isTup u
  pn : ∀ (i : Nat) (v : V), Pn[i]? = some v → σ[i]? = some (some v)
inductive Mode where
  | rd | bor (n : Nat) | own (n : Nat)
/-- a value: read alone; owned by somebody else; owned -/
def Val (K : PySem.W.Frag) (m : Mode) (B : List Addr) (F H : Hp) (v : V) (d : D) (fp : List Addr) : Prop :=
  match m with
  | .rd => R K (rdH B H) v d ∧ fp = []
  | .bor n => (∃ f, Own K F H n v d f ∧ ∀ a ∈ f, a ∉ B) ∧ fp = []
  | .own n => Own K F H n v d fp

section
variable {K : PySem.W.Frag} {F F0 Z0 F' G H H' : Hp} {B A fp : List Addr} {Pn : List V} {σ : L2.St} {ρ : Env}
theorem WF.outB (w : WF B F H) {a : Addr} (h : a ∈ B) : F a = none := by
  cases q : F a with
  | none => rfl
  | some u =>
    have := w.sub a u q
    exact absurd h (rdH_some this).1
theorem OwnE.mono (sF : Same F F') : ∀ {σ : L2.St} {ρ : Env} {fp : List Addr}, (∀ a ∈ fp, ∀ o, H a = some o → H' a = some o) → OwnE K F H σ ρ fp → OwnE K F' H' σ ρ fp
  | [], [], _, _, h => h
  | _ :: σ, none :: ρ, fp, s, h => OwnE.mono (σ := σ) (ρ := ρ) sF s h
  | some v :: σ, some (n, d) :: ρ, fp, s, ⟨f1, f2, e, h, t⟩ =>
    ⟨f1, f2, e, h.mono sF fun a ha => s a (by rw [e]; exact List.mem_append_left _ ha), OwnE.mono (σ := σ) (ρ := ρ) sF (fun a ha => s a (by rw [e]; exact List.mem_append_right _ ha)) t⟩
theorem OwnE.there : ∀ {σ : L2.St} {ρ : Env} {fp : List Addr}, OwnE K F H σ ρ fp → ∀ a ∈ fp, ∃ o, H a = some o ∧ Mut (some o)
  | [], [], _, h, a, ha => by rw [show _ = _ from h] at ha; cases ha
  | _ :: σ, none :: ρ, fp, h, a, ha => OwnE.there (σ := σ) (ρ := ρ) h a ha
  | some v :: σ, some (n, d) :: ρ, fp, ⟨f1, f2, e, h, t⟩, a, ha => by
    rw [e] at ha
    rcases List.mem_append.mp ha with z | z
    · exact h.there a z
    · exact OwnE.there (σ := σ) (ρ := ρ) t a z
theorem OwnE.len : ∀ {σ : L2.St} {ρ : Env} {fp : List Addr}, OwnE K F H σ ρ fp → σ.length = ρ.length
  | [], [], _, h => rfl
  | _ :: σ, none :: ρ, fp, h => by rw [List.length_cons, List.length_cons, OwnE.len (σ := σ) (ρ := ρ) h]
  | some v :: σ, some (n, d) :: ρ, fp, ⟨f1, f2, e, h, t⟩ => by rw [List.length_cons, List.length_cons, OwnE.len (σ := σ) (ρ := ρ) t]
theorem Step.refl (w : WF B F H) : Step B A F H F H := ⟨fun _ _ _ h => h, fun _ _ h => h, fun _ _ h => .inl h, w⟩
theorem Step.trans {F1 H1 : Hp} {A1 : List Addr} (s : Step B A F H F1 H1) (t : Step B A1 F1 H1 F' H') (hA : ∀ a ∈ A1, H a = none ∨ a ∈ A) : Step B A F H F' H' :=
  ⟨fun a o hb h => t.same a o hb (s.same a o hb h), fun a u h => t.fs a u (s.fs a u h), fun a u h => by
    rcases t.fresh a u h with q | q | q | q
    · exact s.fresh a u q
    · right; left
      cases e : H a with
      | none => rfl
      | some o =>
        by_cases hb : a ∈ B
        · have := t.wf.outB hb
          rw [this] at h; cases h
        · rw [s.same a o hb e] at q; cases q
    · exact .inr (.inr (.inl q))
    · exact (hA a q).elim (fun z => .inr (.inl z)) fun z => .inr (.inr (.inr z)), t.wf⟩
/-- an owned thing is no bag's, no frozen one's behind a step -/
theorem Step.out (s : Step B A F H F' H') {a : Addr} {o : HO} (h : H a = some o) (m : Mut (some o)) (hB : a ∉ B) (hF : F a = none) (hA : a ∉ A) : F' a = none := by
  cases q : F' a with
  | none => rfl
  | some u =>
    exfalso
    rcases s.fresh a u q with z | z | z | z
    · rw [hF] at z; cases z
    · rw [h] at z; cases z
    · have e := s.wf.sub a u q
      obtain ⟨_, x, hx, ex⟩ := rdH_some e
      rw [s.same a o hB h] at hx
      cases hx
      cases o <;> cases u <;> first | (cases ex; done) | (exact z) | (exact m)
    · exact hA z
theorem StOk.step (S : StOk K B Pn Z0 F0 F H σ ρ fp) (s : Step B A F H F' H') (hA : ∀ a ∈ A, a ∉ fp ∧ Z0 a = none) : StOk K B Pn Z0 F0 F' H' σ ρ fp where
  wf := s.wf
  own := S.own.mono s.fs fun a ha o e => s.same a o (S.out a ha).2.1 e
  nd := S.nd
  out := fun a ha => by
    obtain ⟨o, e, m⟩ := S.own.there a ha
    obtain ⟨h1, h2, h3⟩ := S.out a ha
    exact ⟨s.out e m h2 h1 fun z => (hA a z).1 ha, h2, h3⟩
  z := fun a o e => s.same a o (fun hb => by rw [S.zB a hb] at e; cases e) (S.z a o e)
  zB := S.zB
  f := fun a u e => s.fs a u (S.f a u e)
  fr := fun a u e => by
    rcases s.fresh a u e with q | q | q | q
    · exact S.fr a u q
    · right; left
      cases z : Z0 a with
      | none => rfl
      | some o => rw [S.z a o z] at q; cases q
    · exact .inr (.inr q)
    · exact .inr (.inl (hA a q).2)
  pn := S.pn
/-- forget the base -/
theorem StOk.base (S : StOk K B Pn Z0 F0 F H σ ρ fp) : StOk K B [] noH noH F H σ ρ fp :=
  ⟨S.wf, S.own, S.nd, fun a ha => ⟨(S.out a ha).1, (S.out a ha).2.1, rfl⟩, fun _ _ e => (by cases e), fun _ _ => rfl, fun _ _ e => (by cases e), fun _ _ _ => .inr (.inl rfl), fun i v e => (by simp at e)⟩
theorem Val.step {m : Mode} {v : V} {d : D} (h : Val K m B F H v d fp) (s : Step B A F H F' H') (hB : ∀ a ∈ fp, a ∉ B) : Val K m B F' H' v d fp := by
  cases m with
  | rd => exact ⟨h.1.mono (rdH_same s.same), h.2⟩
  | bor n =>
    obtain ⟨⟨f, h, hf⟩, e⟩ := h
    exact ⟨⟨f, Own.mono s.fs (fun a ha o e => s.same a o (hf a ha) e) h, hf⟩, e⟩
  | own n => exact Own.mono s.fs (fun a ha o e => s.same a o (hB a ha) e) h
/-- what may be read alone -/
theorem Val.rd {m : Mode} {v : V} {d : D} (w : WF B F H) (hB : ∀ a ∈ fp, a ∉ B) (h : Val K m B F H v d fp) : R K (rdH B H) v d := by
  cases m with
  | rd => exact h.1
  | bor n =>
    obtain ⟨⟨f, h, hf⟩, e⟩ := h
    exact Own.toR w.sub (fun a ha o e er => rdH_of (hf a ha) e er) h
  | own n => exact Own.toR w.sub (fun a ha o e er => rdH_of (hB a ha) e er) h
theorem Val.there {m : Mode} {v : V} {d : D} (h : Val K m B F H v d fp) : ∀ a ∈ fp, ∃ o, H a = some o ∧ Mut (some o) := by
  cases m with
  | rd => intro a ha; rw [h.2] at ha; cases ha
  | bor n => intro a ha; rw [h.2] at ha; cases ha
  | own n => exact Own.there h
/-- an atom is in every mode -/
def atomD : D → Bool
  | .non => true
  | .bl _ => true
  | .int _ => true
  | .str _ => true
  | .raw _ => true
  | _ => false
theorem Own.atom {n : Nat} {v : V} {d : D} (ha : atomD d = true) (h : R K F v d) : Own K F H n v d [] := by
  cases n with
  | zero => exact ⟨h, rfl⟩
  | succ n => cases d <;> first | exact ⟨h, rfl⟩ | (cases ha)
theorem Val.atom {m : Mode} {v : V} {d : D} (ha : atomD d = true) (h : ∀ F, R K F v d) : Val K m B F H v d [] := by
  cases m with
  | rd => exact ⟨h _, rfl⟩
  | bor n => exact ⟨⟨[], Own.atom ha (h _), fun a h => (by cases h)⟩, rfl⟩
  | own n => exact Own.atom ha (h _)
end
end GK

namespace GK
open PySem PySem.Spec PyProof.Rows L2

/-! ### the judgements over data -/
abbrev FE := Env → (D → Prop) → Prop
abbrev FT := Env → (Bool → Prop) → Prop
abbrev FA := Env → (List D → Prop) → Prop
/-- what is wanted behind a value -/
def Post (K : PySem.W.Frag) (B A : List Addr) (F H : Hp) (m : Mode) (R : D → Prop) (Q : VK) : Prop :=
  ∀ F' H' v d fp, Step B A F H F' H' → Val K m B F' H' v d fp → (∀ a ∈ fp, (a ∈ A ∨ H a = none) ∧ F' a = none ∧ a ∉ B) → fp.Nodup → R d → Q v H'
def PostT (B A : List Addr) (F H : Hp) (R : Bool → Prop) (Q : Bool → Hp → Prop) : Prop :=
  ∀ F' H' b, Step B A F H F' H' → R b → Q b H'
def ValL (K : PySem.W.Frag) (B : List Addr) (F H : Hp) : List Mode → List V → List D → List Addr → Prop
  | [], [], [], fp => fp = []
  | m :: ms, v :: vs, d :: ds, fp => ∃ f1 f2, fp = f1 ++ f2 ∧ Val K m B F H v d f1 ∧ ValL K B F H ms vs ds f2
  | _, _, _, _ => False
def PostA (K : PySem.W.Frag) (B A : List Addr) (F H : Hp) (ms : List Mode) (R : List D → Prop) (Q : List V → Hp → Prop) : Prop :=
  ∀ F' H' vs ds fp, Step B A F H F' H' → ValL K B F' H' ms vs ds fp → (∀ a ∈ fp, (a ∈ A ∨ H a = none) ∧ F' a = none ∧ a ∉ B) → fp.Nodup → R ds → Q vs H'
def tD (K : PySem.W.Frag) (B : List Addr) (m : Mode) (f : FE) : TE := fun σ H Q => ∃ F ρ fp R, StOk K B [] noH noH F H σ ρ fp ∧ f ρ R ∧ Post K B [] F H m R Q
def tDT (K : PySem.W.Frag) (B : List Addr) (f : FT) : TT := fun σ H Q => ∃ F ρ fp R, StOk K B [] noH noH F H σ ρ fp ∧ f ρ R ∧ PostT B [] F H R Q
def tDA (K : PySem.W.Frag) (B : List Addr) (ms : List Mode) (f : FA) : TA := fun σ H Q => ∃ F ρ fp R, StOk K B [] noH noH F H σ ρ fp ∧ f ρ R ∧ PostA K B [] F H ms R Q
abbrev DE (X : Cx) (B : List Addr) (e : Expr) (m : Mode) (f : FE) : Prop := PE X e (tD X.K B m f)
abbrev DT (X : Cx) (B : List Addr) (e : Expr) (f : FT) : Prop := PT X e (tDT X.K B f)
abbrev DA (X : Cx) (B : List Addr) (es : List Expr) (ms : List Mode) (f : FA) : Prop := PA X es (tDA X.K B ms f)
theorem PE.imp {X : Cx} {e : Expr} {t t' : TE} (h : PE X e t) (k : ∀ σ H Q, t' σ H Q → t σ H Q) : PE X e t' := ⟨fun pins s σ H Q I q => h.run pins s σ H Q I (k σ H Q q)⟩
theorem PT.imp {X : Cx} {e : Expr} {t t' : TT} (h : PT X e t) (k : ∀ σ H Q, t' σ H Q → t σ H Q) : PT X e t' := ⟨fun pins s σ H Q I q => h.run pins s σ H Q I (k σ H Q q)⟩
theorem PW.imp {X : Cx} {e : Expr} {t t' : TT} (h : PW X e t) (k : ∀ σ H Q, t' σ H Q → t σ H Q) : PW X e t' := ⟨fun w pins s σ H Q I q => h.run w pins s σ H Q I (k σ H Q q)⟩
theorem PA.imp {X : Cx} {e : List Expr} {t t' : TA} (h : PA X e t) (k : ∀ σ H Q, t' σ H Q → t σ H Q) : PA X e t' := ⟨fun p pins s σ H Q I q => h.run p pins s σ H Q I (k σ H Q q)⟩
theorem PS.imp {X : Cx} {e : Stmt} {t t' : TS} (h : PS X e t) (k : ∀ D σ H, t' D σ H → t D σ H) : PS X e t' := ⟨fun pins s σ H D I q => h.run pins s σ H D I (k D σ H q)⟩
theorem PSs.imp {X : Cx} {e : List Stmt} {t t' : TS} (h : PSs X e t) (k : ∀ D σ H, t' D σ H → t D σ H) : PSs X e t' := ⟨fun pins s σ H D I q => h.run pins s σ H D I (k D σ H q)⟩

section
variable {K : PySem.W.Frag} {B A : List Addr} {F F1 F' H H1 H' : Hp} {m : Mode} {Pn : List V} {σ : L2.St} {ρ : Env} {fp : List Addr}
/-- behind a step: what is new there was new before -/
theorem Step.new {a : Addr} (s : Step B A F H F1 H1) (hb : a ∉ B) (h : H1 a = none) : H a = none := by
  cases q : H a with
  | none => rfl
  | some o => rw [s.same a o hb q] at h; cases h
theorem Step.weak {A1 : List Addr} (s : Step B A1 F H F1 H1) (h : ∀ a ∈ A1, a ∈ A) : Step B A F H F1 H1 :=
  ⟨s.same, s.fs, fun a u e => (s.fresh a u e).imp id fun z => z.imp id fun z => z.imp id (h a), s.wf⟩
theorem Post.after {R : D → Prop} {Q : VK} {A1 : List Addr} (k : Post K B A F H m R Q) (s : Step B A F H F1 H1) (hA : ∀ a ∈ A1, a ∈ A ∨ H a = none) : Post K B A1 F1 H1 m R Q :=
  fun F' H' v d fp s' hv ho hn hR => k F' H' v d fp (s.trans s' fun a ha => (hA a ha).symm) hv (fun a ha => by
    obtain ⟨h1, h2, h3⟩ := ho a ha
    refine ⟨?_, h2, h3⟩
    rcases h1 with z | z
    · exact hA a z
    · exact .inr (s.new h3 z)) hn hR
theorem PostA.after {ms : List Mode} {R : List D → Prop} {Q : List V → Hp → Prop} {A1 : List Addr} (k : PostA K B A F H ms R Q) (s : Step B A F H F1 H1) (hA : ∀ a ∈ A1, a ∈ A ∨ H a = none) : PostA K B A1 F1 H1 ms R Q :=
  fun F' H' v d fp s' hv ho hn hR => k F' H' v d fp (s.trans s' fun a ha => (hA a ha).symm) hv (fun a ha => by
    obtain ⟨h1, h2, h3⟩ := ho a ha
    refine ⟨?_, h2, h3⟩
    rcases h1 with z | z
    · exact hA a z
    · exact .inr (s.new h3 z)) hn hR
theorem PostT.after {R : Bool → Prop} {Q : Bool → Hp → Prop} {A1 : List Addr} (k : PostT B A F H R Q) (s : Step B A F H F1 H1) (hA : ∀ a ∈ A1, a ∈ A ∨ H a = none) : PostT B A1 F1 H1 R Q :=
  fun F' H' b s' hR => k F' H' b (s.trans s' fun a ha => (hA a ha).symm) hR
/-- an atom comes -/
theorem Post.at {R : D → Prop} {Q : VK} {v : V} {d : D} (k : Post K B A F H m R Q) (w : WF B F H) (ha : atomD d = true) (h : ∀ F, GK.R K F v d) (q : R d) : Q v H := by
  exact k F H v d [] (Step.refl w) (Val.atom ha h) (fun a h => (by cases h)) List.nodup_nil q
theorem Post.int {R : D → Prop} {Q : VK} {i : Int} (k : Post K B A F H m R Q) (w : WF B F H) (q : R (.int i)) : Q (.int i) H := k.at w rfl (fun _ => .int i) q
theorem Post.bl {R : D → Prop} {Q : VK} {b : Bool} (k : Post K B A F H m R Q) (w : WF B F H) (q : R (.bl b)) : Q (.bl b) H := k.at w rfl (fun _ => .bl b) q
theorem Post.str {R : D → Prop} {Q : VK} {b : Str} (k : Post K B A F H m R Q) (w : WF B F H) (q : R (.str b)) : Q (.str b) H := k.at w rfl (fun _ => .str b) q
theorem Post.non {R : D → Prop} {Q : VK} (k : Post K B A F H m R Q) (w : WF B F H) (q : R .non) : Q .non H := k.at w rfl (fun _ => .non) q
end

/-! ### operations by values -/
/-- the addresses of a value that is owned -/
def Fp (B : List Addr) (F : Hp) (fp : List Addr) : Prop := (∀ a ∈ fp, F a = none ∧ a ∉ B) ∧ fp.Nodup
def Op1 (K : PySem.W.Frag) (r : V → Hp → VK → Prop) (m1 m : Mode) (g : D → (D → Prop) → Prop) : Prop :=
  ∀ B F H x d fp R Q, WF B F H → Val K m1 B F H x d fp → Fp B F fp → g d R → Post K B fp F H m R Q → r x H Q
def Op2 (K : PySem.W.Frag) (r : R2) (m1 m2 m : Mode) (g : D → D → (D → Prop) → Prop) : Prop :=
  ∀ B F H x y d e fp R Q, WF B F H → (∃ f1 f2, fp = f1 ++ f2 ∧ Val K m1 B F H x d f1 ∧ Val K m2 B F H y e f2) → Fp B F fp → g d e R → Post K B fp F H m R Q → r x y H Q
def OpN (K : PySem.W.Frag) (r : List V → Hp → VK → Prop) (ms : List Mode) (m : Mode) (g : List D → (D → Prop) → Prop) : Prop :=
  ∀ B F H vs ds fp R Q, WF B F H → ValL K B F H ms vs ds fp → Fp B F fp → g ds R → Post K B fp F H m R Q → r vs H Q
abbrev fUn (g : D → (D → Prop) → Prop) (f : FE) : FE := fun ρ R => f ρ fun x => g x R
abbrev fBin (g : D → D → (D → Prop) → Prop) (f f' : FE) : FE := fun ρ R => f ρ fun x => f' ρ fun y => g x y R
abbrev fArgs (g : List D → (D → Prop) → Prop) (f : FA) : FE := fun ρ R => f ρ fun xs => g xs R
abbrev fCons (f : FE) (fs : FA) : FA := fun ρ R => f ρ fun x => fs ρ fun xs => R (x :: xs)
abbrev fNil : FA := fun _ R => R []
section
variable {K : PySem.W.Frag} {m m1 m2 : Mode} {σ : L2.St} {H : Hp}
theorem tD_un {r : V → Hp → VK → Prop} {g : D → (D → Prop) → Prop} {f : FE} {Q : VK} (hr : Op1 K r m1 m g) (h : tD K B m (fUn g f) σ H Q) : tD K B m1 f σ H fun x H1 => r x H1 Q := by
  obtain ⟨F, ρ, fp, R, S, hf, k⟩ := h
  exact ⟨F, ρ, fp, _, S, hf, fun F1 H1 v d fp1 s1 hv o1 n1 hg => hr B F1 H1 v d fp1 R Q s1.wf hv ⟨fun a ha => (o1 a ha).2, n1⟩ hg (k.after s1 fun a ha => (o1 a ha).1)⟩
theorem tD_bin {r : R2} {g : D → D → (D → Prop) → Prop} {f f' : FE} {Q : VK} (hr : Op2 K r m1 m2 m g) (h : tD K B m (fBin g f f') σ H Q) : tD K B m1 f σ H fun x H1 => tD K B m2 f' σ H1 fun y H2 => r x y H2 Q := by
  obtain ⟨F, ρ, fp, R, S, hf, k⟩ := h
  refine ⟨F, ρ, fp, _, S, hf, fun F1 H1 v1 d1 fp1 s1 hv1 o1 n1 hg1 => ?_⟩
  refine ⟨F1, ρ, fp, _, S.step s1 (fun a ha => by cases ha), hg1, fun F2 H2 v2 d2 fp2 s2 hv2 o2 n2 hg2 => ?_⟩
  have t1 := hv1.there
  have nn : ∀ a ∈ fp1, F2 a = none := fun a ha => by
    obtain ⟨o, e, mu⟩ := t1 a ha
    exact s2.out e mu (o1 a ha).2.2 (o1 a ha).2.1 fun z => by cases z
  refine hr B F2 H2 v1 v2 d1 d2 (fp1 ++ fp2) R Q s2.wf ⟨fp1, fp2, rfl, hv1.step s2 fun a ha => (o1 a ha).2.2, hv2⟩ ⟨fun a ha => ?_, ?_⟩ hg2 ((k.after s1 (A1 := fp1) fun a ha => (o1 a ha).1).after (s2.weak fun a ha => by cases ha) fun a ha => ?_)
  · rcases List.mem_append.mp ha with z | z
    · exact ⟨nn a z, (o1 a z).2.2⟩
    · exact (o2 a z).2
  · refine List.nodup_append.mpr ⟨n1, n2, fun a ha b hb e => ?_⟩
    subst e
    obtain ⟨o, e, mu⟩ := t1 a ha
    rcases (o2 a hb).1 with z | z
    · cases z
    · rw [e] at z; cases z
  · rcases List.mem_append.mp ha with z | z
    · exact .inl z
    · exact .inr ((o2 a z).1.elim (fun z => by cases z) id)
end
theorem de_un {X : Cx} {e : Expr} {op : UnaryOp} {pos : Pos} {m m1 : Mode} {r : V → Hp → VK → Prop} {g : D → (D → Prop) → Prop} {f : FE} (ho : UnR X (unaryOp op) r) (hr : Op1 X.K r m1 m g) (h : DE X B e m1 f) : DE X B (.UnaryOp op e pos) m (fUn g f) :=
  PE.imp (pe_un ho h) fun _ _ _ q => tD_un hr q
theorem de_op {X : Cx} {a b : Expr} {op : Operator} {pos : Pos} {m m1 m2 : Mode} {r : R2} {g : D → D → (D → Prop) → Prop} {f f' : FE} (ho : OpR X (binaryOp op) r) (hr : Op2 X.K r m1 m2 m g) (ha : DE X B a m1 f) (hb : DE X B b m2 f') :
    DE X B (.BinOp a op b pos) m (fBin g f f') := PE.imp (pe_op ho ha hb) fun _ _ _ q => tD_bin hr q
theorem de_cmp {X : Cx} {a b : Expr} {op : CmpOp} {pos : Pos} {m m1 m2 : Mode} {r : R2} {g : D → D → (D → Prop) → Prop} {f f' : FE} (ho : OpR X (compareOp op) r) (hr : Op2 X.K r m1 m2 m g) (ha : DE X B a m1 f) (hb : DE X B b m2 f') (hm : behindInMarks op b = false) :
    DE X B (.Compare a [op] [b] pos) m (fBin g f f') := PE.imp (pe_cmpR ho ha hb hm) fun _ _ _ q => tD_bin hr q
theorem de_ix {X : Cx} {a b : Expr} {pos : Pos} {m m1 m2 : Mode} {r : R2} {g : D → D → (D → Prop) → Prop} {f f' : FE} (ho : IxR X r) (hr : Op2 X.K r m1 m2 m g) (ha : DE X B a m1 f) (hb : DE X B b m2 f') (hs : PlainIx b) :
    DE X B (.Subscript a b pos) m (fBin g f f') := PE.imp (pe_ix ho ha hb hs) fun _ _ _ q => tD_bin hr q

/-! ### another mode -/
section
variable {K : PySem.W.Frag} {B A : List Addr} {F H : Hp} {m : Mode} {R : D → Prop} {Q : VK}
theorem Post.rd (k : Post K B A F H .rd R Q) : Post K B A F H m R Q := fun F' H' v d fp s hv ho hn hR =>
  k F' H' v d [] s ⟨hv.rd s.wf fun a ha => (ho a ha).2.2, rfl⟩ (fun a ha => by cases ha) List.nodup_nil hR
theorem Post.bor0 (k : Post K B A F H (.own 0) R Q) : Post K B A F H (.bor 0) R Q := fun F' H' v d fp s hv ho hn hR => by
  obtain ⟨⟨f, h, hf⟩, e⟩ := hv
  exact k F' H' v d [] s ⟨h.1, rfl⟩ (fun a ha => by cases ha) List.nodup_nil hR
theorem mut_er {o : HO} (m : Mut (some o)) : erO o = o := by cases o <;> first | rfl | exact m.elim
theorem Post.frz {n : Nat} (k : Post K B A F H (.own 0) R Q) : Post K B A F H (.own n) R Q := fun F' H' v d fp s hv ho hn hR => by
  have hv : Own K F' H' n v d fp := hv
  have sF : Same F' (fun a => if a ∈ fp then H' a else F' a) := fun a u e => by
    show (if a ∈ fp then H' a else F' a) = some u
    by_cases ha : a ∈ fp
    · rw [(ho a ha).2.1] at e; cases e
    · rw [if_neg ha]; exact e
  refine k (fun a => if a ∈ fp then H' a else F' a) H' v d [] ⟨s.same, fun a u e => sF a u (s.fs a u e), fun a u e => ?_, ⟨fun a u e => ?_, s.wf.lock, s.wf.bag⟩⟩ ⟨?_, rfl⟩ (fun a ha => by cases ha) List.nodup_nil hR
  · by_cases ha : a ∈ fp
    · rcases (ho a ha).1 with z | z
      · exact .inr (.inr (.inr z))
      · exact .inr (.inl z)
    · rw [if_neg ha] at e
      exact s.fresh a u e
  · by_cases ha : a ∈ fp
    · rw [if_pos ha] at e
      obtain ⟨o, eo, mu⟩ := hv.there a ha
      rw [eo] at e
      cases e
      exact rdH_of (ho a ha).2.2 eo (mut_er mu)
    · rw [if_neg ha] at e
      exact s.wf.sub a u e
  · refine hv.toR sF fun a ha o e _ => ?_
    show (if a ∈ fp then H' a else F' a) = some o
    rw [if_pos ha]; exact e
/-- .. with all tuples -/
def addT (F G : Hp) : Hp := fun a => match F a with
  | some u => some u
  | none => match G a with
    | some (.tup vs) => some (.tup vs)
    | _ => none
theorem addT_left {F G : Hp} : Same F (addT F G) := fun a u e => by unfold addT; rw [e]
theorem addT_tup {F G : Hp} (s : Same F G) {a : Addr} {vs : List V} (h : G a = some (.tup vs)) : addT F G a = some (.tup vs) := by
  unfold addT
  cases q : F a with
  | none => rw [h]
  | some u => rw [s a u q] at h; cases h; rfl
theorem addT_cases {F G : Hp} {a : Addr} {u : HO} (h : addT F G a = some u) : F a = some u ∨ (G a = some u ∧ isTup u) := by
  unfold addT at h
  split at h
  · rename_i x e; left; rw [e]; exact h
  · split at h
    · rename_i e; right; cases h; exact ⟨e, trivial⟩
    · cases h
theorem Step.addT {F' H' : Hp} (s : Step B A F H F' H') : Step B A F H (addT F' (rdH B H')) H' :=
  ⟨s.same, fun a u e => addT_left a u (s.fs a u e), fun a u e => (addT_cases e).elim (s.fresh a u) fun z => .inr (.inr (.inl z.2)), ⟨fun a u e => (addT_cases e).elim (s.wf.sub a u) fun z => z.1, s.wf.lock, s.wf.bag⟩⟩
theorem Post.flat (k : Post K B A F H (.own 0) R Q) : Post K B A F H .rd (fun d => d.flat = true ∧ R d) Q := fun F' H' v d fp s hv ho hn hR =>
  k _ H' v d [] s.addT ⟨hv.1.flat (fun a vs e => addT_tup s.wf.sub e) hR.1, rfl⟩ (fun a ha => by cases ha) List.nodup_nil hR.2
end
abbrev fFlat (f : FE) : FE := fun ρ R => f ρ fun d => d.flat = true ∧ R d
section
variable {X : Cx} {e : Expr} {m : Mode} {f : FE}
theorem de_rd (h : DE X B e m f) : DE X B e .rd f := PE.imp h fun _ _ _ ⟨F, ρ, fp, R, S, hf, k⟩ => ⟨F, ρ, fp, R, S, hf, k.rd⟩
theorem de_frz {n : Nat} (h : DE X B e (.own n) f) : DE X B e (.own 0) f := PE.imp h fun _ _ _ ⟨F, ρ, fp, R, S, hf, k⟩ => ⟨F, ρ, fp, R, S, hf, k.frz⟩
theorem de_bor0 (h : DE X B e (.bor 0) f) : DE X B e (.own 0) f := PE.imp h fun _ _ _ ⟨F, ρ, fp, R, S, hf, k⟩ => ⟨F, ρ, fp, R, S, hf, k.bor0⟩
theorem de_flat (h : DE X B e m f) : DE X B e (.own 0) (fFlat f) := PE.imp (de_rd h) fun _ _ _ ⟨F, ρ, fp, R, S, hf, k⟩ => ⟨F, ρ, fp, _, S, hf, k.flat⟩
end

/-! ### names, constants -/
def slot : Env → Nat → Option (Nat × D)
  | [], _ => none
  | o :: _, 0 => o
  | _ :: r, i + 1 => slot r i
def fVar (i n : Nat) : FE := fun ρ R => match slot ρ i with
  | some (k, d) => k = n ∧ R d
  | none => False
theorem OwnE.slot {K : PySem.W.Frag} {F H : Hp} : ∀ {σ : L2.St} {ρ : Env} {fp : List Addr} {i n : Nat} {d : D}, OwnE K F H σ ρ fp → GK.slot ρ i = some (n, d) → ∃ v f, σ[i]? = some (some v) ∧ Own K F H n v d f ∧ ∀ a ∈ f, a ∈ fp
  | [], [], _, i, n, d, h, e => by cases e
  | _ :: σ, none :: ρ, fp, 0, n, d, h, e => by cases e
  | _ :: σ, none :: ρ, fp, i + 1, n, d, h, e => by
    obtain ⟨v, f, e1, e2, e3⟩ := OwnE.slot (σ := σ) (ρ := ρ) (i := i) h e
    exact ⟨v, f, e1, e2, e3⟩
  | some v :: σ, some (n, d) :: ρ, fp, 0, n', d', ⟨f1, f2, ef, h, t⟩, e => by
    cases e
    exact ⟨v, f1, rfl, h, fun a ha => by rw [ef]; exact List.mem_append_left _ ha⟩
  | some v :: σ, some (n, d) :: ρ, fp, i + 1, n', d', ⟨f1, f2, ef, h, t⟩, e => by
    obtain ⟨v, f, e1, e2, e3⟩ := OwnE.slot (σ := σ) (ρ := ρ) (i := i) t e
    exact ⟨v, f, e1, e2, fun a ha => by rw [ef]; exact List.mem_append_right _ (e3 a ha)⟩
section
variable {X : Cx} {pos : Pos} {m : Mode}
theorem de_var (i n : Nat) {x : Str} (hN : X.N[i]? = some x := by rfl) (hv : Vis X.env.scope x := by first | exact Or.inl rfl | exact Or.inr (Or.inl rfl) | exact Or.inr (Or.inr rfl)) (hd : (x == ("__debug__" : Str)) = false := by decide)
    (hcd : (x == ("__classdict__" : Str)) = false := by decide) : DE X B (.Name x pos) (.bor n) (fVar i n) :=
  PE.imp (pe_var hN hv hd hcd) fun σ H Q ⟨F, ρ, fp, R, S, hf, k⟩ => by
    unfold fVar at hf
    cases q : slot ρ i with
    | none => rw [q] at hf; exact hf.elim
    | some p =>
      obtain ⟨n', d⟩ := p
      rw [q] at hf
      obtain ⟨rfl, hR⟩ := hf
      obtain ⟨v, f, e1, e2, e3⟩ := S.own.slot q
      exact ⟨v, e1, k F H v d [] (Step.refl S.wf) ⟨⟨f, e2, fun a ha => (S.out a (e3 a ha)).2.1⟩, rfl⟩ (fun a ha => by cases ha) List.nodup_nil hR⟩
theorem de_v (i : Nat) {x : Str} (hN : X.N[i]? = some x := by rfl) (hv : Vis X.env.scope x := by first | exact Or.inl rfl | exact Or.inr (Or.inl rfl) | exact Or.inr (Or.inr rfl)) (hd : (x == ("__debug__" : Str)) = false := by decide)
    (hcd : (x == ("__classdict__" : Str)) = false := by decide) : DE X B (.Name x pos) (.own 0) (fVar i 0) := de_bor0 (de_var i 0 hN hv hd hcd)
theorem de_int {i : Int} {j} : DE X B (.Constant (.int i) j pos) m (fun _ R => R (.int i)) := PE.imp pe_int fun _ _ _ ⟨F, ρ, fp, R, S, hf, k⟩ => k.int S.wf hf
theorem de_bl {b : Bool} {j} : DE X B (.Constant (.bool b) j pos) m (fun _ R => R (.bl b)) := PE.imp pe_bl fun _ _ _ ⟨F, ρ, fp, R, S, hf, k⟩ => k.bl S.wf hf
theorem de_non {j} : DE X B (.Constant .none j pos) m (fun _ R => R .non) := PE.imp pe_non fun _ _ _ ⟨F, ρ, fp, R, S, hf, k⟩ => k.non S.wf hf
theorem de_str {x : Str} {j} : DE X B (.Constant (.str x) j pos) m (fun _ R => R (.str x)) := PE.imp pe_str fun _ _ _ ⟨F, ρ, fp, R, S, hf, k⟩ => k.str S.wf hf
end
end GK

namespace GK
open PySem PySem.Spec PyProof.Rows L2

/-! ### what a value is -/
section
variable {K : PySem.W.Frag} {B A : List Addr} {F H : Hp} {m : Mode} {fp : List Addr} {v : V}
theorem Val.atomR {d : D} (ha : atomD d = true) (h : Val K m B F H v d fp) : (∃ G, R K G v d) ∧ fp = [] := by
  cases m with
  | rd => exact ⟨⟨_, h.1⟩, h.2⟩
  | bor n =>
    obtain ⟨⟨f, h, _⟩, e⟩ := h
    refine ⟨?_, e⟩
    cases n with
    | zero => exact ⟨_, h.1⟩
    | succ n => cases d <;> first | exact ⟨_, h.1⟩ | (cases ha)
  | own n =>
    cases n with
    | zero => exact ⟨⟨_, h.1⟩, h.2⟩
    | succ n => cases d <;> first | exact ⟨⟨_, h.1⟩, h.2⟩ | (cases ha)
theorem Val.int {i : Int} (h : Val K m B F H v (.int i) fp) : v = .int i ∧ fp = [] := by
  obtain ⟨⟨G, h⟩, e⟩ := h.atomR rfl
  cases h
  exact ⟨rfl, e⟩
theorem Val.str {i : Str} (h : Val K m B F H v (.str i) fp) : v = .str i ∧ fp = [] := by
  obtain ⟨⟨G, h⟩, e⟩ := h.atomR rfl
  cases h
  exact ⟨rfl, e⟩
theorem Val.bl {i : Bool} (h : Val K m B F H v (.bl i) fp) : v = .bl i ∧ fp = [] := by
  obtain ⟨⟨G, h⟩, e⟩ := h.atomR rfl
  cases h
  exact ⟨rfl, e⟩
theorem Val.non (h : Val K m B F H v .non fp) : v = .non ∧ fp = [] := by
  obtain ⟨⟨G, h⟩, e⟩ := h.atomR rfl
  cases h
  exact ⟨rfl, e⟩
/-- the mode of what is within -/
def Mode.child : Mode → Mode
  | .rd => .rd
  | .bor 0 => .bor 0
  | .bor (n + 1) => .bor n
  | .own _ => .own 0
/-- what may be looked into -/
def Mode.look : Mode → Bool
  | .rd => true
  | .bor _ => true
  | .own 0 => true
  | .own _ => false
theorem OwnL.get {P : V → D → List Addr → Prop} : ∀ {vs : List V} {ds : List D} {f : List Addr}, OwnL P vs ds f → ∀ {i : Nat} {d : D}, ds[i]? = some d → ∃ x g, vs[i]? = some x ∧ P x d g ∧ ∀ a ∈ g, a ∈ f
  | [], [], _, _, i, d, e => by simp at e
  | v :: vs, d :: ds, fp, ⟨f1, f2, e, h, t⟩, 0, d', e' => by
    have e2 : d = d' := Option.some.inj e'
    subst e2
    exact ⟨v, f1, rfl, h, fun a ha => by rw [e]; exact List.mem_append_left _ ha⟩
  | v :: vs, d :: ds, fp, ⟨f1, f2, e, h, t⟩, i + 1, d', e' => by
    obtain ⟨x, g, h1, h2, h3⟩ := OwnL.get t (i := i) (d := d') e'
    exact ⟨x, g, h1, h2, fun a ha => by rw [e]; exact List.mem_append_right _ (h3 a ha)⟩
theorem OwnL.len {P : V → D → List Addr → Prop} : ∀ {vs : List V} {ds : List D} {f : List Addr}, OwnL P vs ds f → vs.length = ds.length
  | [], [], _, _ => rfl
  | v :: vs, d :: ds, fp, ⟨f1, f2, e, h, t⟩ => by rw [List.length_cons, List.length_cons, OwnL.len t]
/-- the items -/
def Items (K : PySem.W.Frag) (m : Mode) (B : List Addr) (F H : Hp) (vs : List V) (ds : List D) : Prop :=
  vs.length = ds.length ∧ ∀ (i : Nat) (d : D), ds[i]? = some d → ∃ x, vs[i]? = some x ∧ Val K m B F H x d []
theorem Items.of_RLrd {vs : List V} {ds : List D} (r : RL K (rdH B H) vs ds) : Items K .rd B F H vs ds := ⟨r.length, fun i d e => by
  obtain ⟨x, h1, h2⟩ := r.get e
  exact ⟨x, h1, h2, rfl⟩⟩
theorem Items.of_RL {vs : List V} {ds : List D} (r : RL K F vs ds) : Items K (.own 0) B F H vs ds := ⟨r.length, fun i d e => by
  obtain ⟨x, h1, h2⟩ := r.get e
  exact ⟨x, h1, h2, rfl⟩⟩
theorem Items.of_RLb {vs : List V} {ds : List D} (r : RL K F vs ds) : Items K (.bor 0) B F H vs ds := ⟨r.length, fun i d e => by
  obtain ⟨x, h1, h2⟩ := r.get e
  exact ⟨x, h1, ⟨[], ⟨h2, rfl⟩, fun a h => (by cases h)⟩, rfl⟩⟩
theorem Items.of_Own {n : Nat} {vs : List V} {ds : List D} {f : List Addr} (r : OwnL (Own K F H n) vs ds f) (hf : ∀ a ∈ f, a ∉ B) : Items K (.bor n) B F H vs ds := ⟨r.len, fun i d e => by
  obtain ⟨x, g, h1, h2, h3⟩ := r.get e
  exact ⟨x, h1, ⟨g, h2, fun a ha => hf a (h3 a ha)⟩, rfl⟩⟩
theorem lst_sub (w : WF B F H) {a : Addr} {vs : List V} (h : F a = some (.lst vs)) : SqL K H a vs := .inl (rd_of_rdH (w.sub _ _ h))
theorem tup_sub (w : WF B F H) {a : Addr} {vs : List V} (h : F a = some (.tup vs)) : SqT K H a vs := .inl (rd_of_rdH (w.sub _ _ h))
theorem R.lstI {G : Hp} {ds : List D} (h : R K G v (.lst ds)) : ∃ a vs, v = .ref a ∧ G a = some (.lst vs) ∧ RL K G vs ds := by
  cases h with | lst h r => exact ⟨_, _, rfl, h, r⟩
theorem R.tupI {G : Hp} {ds : List D} (h : R K G v (.tup ds)) : ∃ a vs, v = .ref a ∧ G a = some (.tup vs) ∧ RL K G vs ds := by
  cases h with | tup h r => exact ⟨_, _, rfl, h, r⟩
theorem R.dKI {G : Hp} {es : List (Key × D)} (h : R K G v (.dK es)) : ∃ a kvs, v = .ref a ∧ G a = some (.dK kvs) ∧ kvs.map (·.1) = es.map (·.1) ∧ RL K G (kvs.map (·.2)) (es.map (·.2)) := by
  cases h with | dK h hk r => exact ⟨_, _, rfl, h, hk, r⟩
theorem R.dTI {G : Hp} {es : List (List Key × D)} (h : R K G v (.dT es)) : ∃ a kvs, v = .ref a ∧ G a = some (.dT kvs) ∧ kvs.map (·.1) = es.map (·.1) ∧ RL K G (kvs.map (·.2)) (es.map (·.2)) := by
  cases h with | dT h hk r => exact ⟨_, _, rfl, h, hk, r⟩
theorem R.objI {G : Hp} {C : Addr} {es : List (Str × D)} (h : R K G v (.obj C es)) : ∃ a dx fs, v = .ref a ∧ G a = some (.ins C dx fs) ∧ fs.map (·.1) = es.map (·.1) ∧ RL K G (fs.map (·.2)) (es.map (·.2)) := by
  cases h with | obj h hk r => exact ⟨_, _, _, rfl, h, hk, r⟩
theorem Val.lst {ds : List D} (hm : m.look = true) (w : WF B F H) (h : Val K m B F H v (.lst ds) fp) : fp = [] ∧ ∃ a vs, v = .ref a ∧ SqL K H a vs ∧ Items K m.child B F H vs ds := by
  cases m with
  | rd =>
    obtain ⟨a, vs, e, h1, r⟩ := h.1.lstI
    exact ⟨h.2, a, vs, e, sqL_rd h1, .of_RLrd r⟩
  | bor n =>
    obtain ⟨⟨f, h, hf⟩, e0⟩ := h
    refine ⟨e0, ?_⟩
    cases n with
    | zero =>
      obtain ⟨a, vs, e, h1, r⟩ := h.1.lstI
      exact ⟨a, vs, e, lst_sub w h1, .of_RLb r⟩
    | succ n =>
      obtain ⟨a, vs, g, e, h1, ef, t⟩ := h
      exact ⟨a, vs, e, SqL.of h1, .of_Own t fun b hb => hf b (by rw [ef]; exact List.mem_cons_of_mem _ hb)⟩
  | own n =>
    cases n with
    | zero =>
      obtain ⟨a, vs, e, h1, r⟩ := h.1.lstI
      exact ⟨h.2, a, vs, e, lst_sub w h1, .of_RL r⟩
    | succ n => cases hm
theorem Val.tup {ds : List D} (hm : m.look = true) (w : WF B F H) (h : Val K m B F H v (.tup ds) fp) : fp = [] ∧ ∃ a vs, v = .ref a ∧ SqT K H a vs ∧ Items K m.child B F H vs ds := by
  cases m with
  | rd =>
    obtain ⟨a, vs, e, h1, r⟩ := h.1.tupI
    exact ⟨h.2, a, vs, e, sqT_rd h1, .of_RLrd r⟩
  | bor n =>
    obtain ⟨⟨f, h, hf⟩, e0⟩ := h
    refine ⟨e0, ?_⟩
    cases n with
    | zero =>
      obtain ⟨a, vs, e, h1, r⟩ := h.1.tupI
      exact ⟨a, vs, e, tup_sub w h1, .of_RLb r⟩
    | succ n =>
      obtain ⟨a, vs, e, h1, t⟩ := h
      exact ⟨a, vs, e, tup_sub w h1, .of_Own t hf⟩
  | own n =>
    cases n with
    | zero =>
      obtain ⟨a, vs, e, h1, r⟩ := h.1.tupI
      exact ⟨h.2, a, vs, e, tup_sub w h1, .of_RL r⟩
    | succ n => cases hm
theorem Val.dK {es : List (Key × D)} (hm : m.look = true) (w : WF B F H) (h : Val K m B F H v (.dK es) fp) : fp = [] ∧ ∃ a kvs, v = .ref a ∧ Rd H a (.dK kvs) ∧ kvs.map (·.1) = es.map (·.1) ∧ Items K m.child B F H (kvs.map (·.2)) (es.map (·.2)) := by
  cases m with
  | rd =>
    obtain ⟨a, vs, e, h1, hk, r⟩ := h.1.dKI
    exact ⟨h.2, a, vs, e, rd_of_rdH h1, hk, .of_RLrd r⟩
  | bor n =>
    obtain ⟨⟨f, h, hf⟩, e0⟩ := h
    refine ⟨e0, ?_⟩
    cases n with
    | zero =>
      obtain ⟨a, vs, e, h1, hk, r⟩ := h.1.dKI
      exact ⟨a, vs, e, rd_of_rdH (w.sub _ _ h1), hk, .of_RLb r⟩
    | succ n =>
      obtain ⟨a, vs, g, e, h1, ef, hk, t⟩ := h
      exact ⟨a, vs, e, .inl h1, hk, .of_Own t fun b hb => hf b (by rw [ef]; exact List.mem_cons_of_mem _ hb)⟩
  | own n =>
    cases n with
    | zero =>
      obtain ⟨a, vs, e, h1, hk, r⟩ := h.1.dKI
      exact ⟨h.2, a, vs, e, rd_of_rdH (w.sub _ _ h1), hk, .of_RL r⟩
    | succ n => cases hm
theorem Val.dT {es : List (List Key × D)} (hm : m.look = true) (w : WF B F H) (h : Val K m B F H v (.dT es) fp) : fp = [] ∧ ∃ a kvs, v = .ref a ∧ Rd H a (.dT kvs) ∧ kvs.map (·.1) = es.map (·.1) ∧ Items K m.child B F H (kvs.map (·.2)) (es.map (·.2)) := by
  cases m with
  | rd =>
    obtain ⟨a, vs, e, h1, hk, r⟩ := h.1.dTI
    exact ⟨h.2, a, vs, e, rd_of_rdH h1, hk, .of_RLrd r⟩
  | bor n =>
    obtain ⟨⟨f, h, hf⟩, e0⟩ := h
    refine ⟨e0, ?_⟩
    cases n with
    | zero =>
      obtain ⟨a, vs, e, h1, hk, r⟩ := h.1.dTI
      exact ⟨a, vs, e, rd_of_rdH (w.sub _ _ h1), hk, .of_RLb r⟩
    | succ n =>
      obtain ⟨a, vs, g, e, h1, ef, hk, t⟩ := h
      exact ⟨a, vs, e, .inl h1, hk, .of_Own t fun b hb => hf b (by rw [ef]; exact List.mem_cons_of_mem _ hb)⟩
  | own n =>
    cases n with
    | zero =>
      obtain ⟨a, vs, e, h1, hk, r⟩ := h.1.dTI
      exact ⟨h.2, a, vs, e, rd_of_rdH (w.sub _ _ h1), hk, .of_RL r⟩
    | succ n => cases hm
/-- an instance is never locked -/
theorem ins_of (w : WF B F H) {a C dx : Addr} {fs : List (Str × V)} (h : rdH B H a = some (.ins C dx fs)) : H a = some (.ins C dx fs) := by
  obtain ⟨hb, x, e, n⟩ := rdH_some h
  cases x <;> first | (rw [e]; exact congrArg some n) | skip
  rename_i o u
  have := w.lock a o u hb e
  have n' : u = .ins C dx fs := n
  rw [n'] at this
  exact this.elim
theorem tup_of (w : WF B F H) {a : Addr} {vs : List V} (h : rdH B H a = some (.tup vs)) : H a = some (.tup vs) := by
  obtain ⟨hb, x, e, n⟩ := rdH_some h
  cases x <;> first | (rw [e]; exact congrArg some n) | skip
  rename_i o u
  have := w.lock a o u hb e
  have n' : u = .tup vs := n
  rw [n'] at this
  exact this.elim
theorem lst_of (w : WF B F H) {a : Addr} {vs : List V} (h : rdH B H a = some (.lst vs)) : H a = some (.lst vs) := by
  obtain ⟨hb, x, e, n⟩ := rdH_some h
  cases x <;> first | (rw [e]; exact congrArg some n) | skip
  rename_i o u
  have := w.lock a o u hb e
  have n' : u = .lst vs := n
  rw [n'] at this
  exact this.elim
theorem Val.obj {C : Addr} {es : List (Str × D)} (hm : m.look = true) (w : WF B F H) (h : Val K m B F H v (.obj C es) fp) : fp = [] ∧ ∃ a dx fs, v = .ref a ∧ H a = some (.ins C dx fs) ∧ fs.map (·.1) = es.map (·.1) ∧ Items K m.child B F H (fs.map (·.2)) (es.map (·.2)) := by
  cases m with
  | rd =>
    obtain ⟨a, dx, vs, e, h1, hk, r⟩ := h.1.objI
    exact ⟨h.2, a, dx, vs, e, ins_of w h1, hk, .of_RLrd r⟩
  | bor n =>
    obtain ⟨⟨f, h, hf⟩, e0⟩ := h
    refine ⟨e0, ?_⟩
    cases n with
    | zero =>
      obtain ⟨a, dx, vs, e, h1, hk, r⟩ := h.1.objI
      exact ⟨a, dx, vs, e, ins_of w (w.sub _ _ h1), hk, .of_RLb r⟩
    | succ n =>
      obtain ⟨a, dx, vs, g, e, h1, ef, hk, t⟩ := h
      exact ⟨a, dx, vs, e, h1, hk, .of_Own t fun b hb => hf b (by rw [ef]; exact List.mem_cons_of_mem _ hb)⟩
  | own n =>
    cases n with
    | zero =>
      obtain ⟨a, dx, vs, e, h1, hk, r⟩ := h.1.objI
      exact ⟨h.2, a, dx, vs, e, ins_of w (w.sub _ _ h1), hk, .of_RL r⟩
    | succ n => cases hm
/-- something of a mode comes that owns nothing new -/
theorem Post.val {R : D → Prop} {Q : VK} {d : D} (k : Post K B A F H m R Q) (w : WF B F H) (h : Val K m B F H v d []) (q : R d) : Q v H :=
  k F H v d [] (Step.refl w) h (fun a h => (by cases h)) List.nodup_nil q
end

/-! ### ints -/
def g2I (c : Int → Int → Prop) (h : Int → Int → D) : D → D → (D → Prop) → Prop
  | .int i, .int j, R => c i j ∧ R (h i j)
  | _, _, _ => False
def g2I0 (h : Int → Int → D) : D → D → (D → Prop) → Prop
  | .int i, .int j, R => R (h i j)
  | _, _, _ => False
def g1I (h : Int → D) : D → (D → Prop) → Prop
  | .int i, R => R (h i)
  | _, _ => False
section
variable {K : PySem.W.Frag} {m m1 m2 : Mode}
theorem op2I {c : Int → Int → Prop} {h : Int → Int → Int} : Op2 K (rI c fun i j => .int (h i j)) m1 m2 m (g2I c fun i j => .int (h i j)) := by
  intro B F H x y d e fp R Q w ⟨f1, f2, ef, h1, h2⟩ _ hg k
  cases d <;> try exact hg.elim
  cases e <;> try exact hg.elim
  obtain ⟨rfl, rfl⟩ := h1.int
  obtain ⟨rfl, rfl⟩ := h2.int
  exact ⟨_, _, rfl, rfl, hg.1, k.int w hg.2⟩
theorem op2I0 {h : Int → Int → Int} : Op2 K (rI0 fun i j => .int (h i j)) m1 m2 m (g2I0 fun i j => .int (h i j)) := by
  intro B F H x y d e fp R Q w ⟨f1, f2, ef, h1, h2⟩ _ hg k
  cases d <;> try exact hg.elim
  cases e <;> try exact hg.elim
  obtain ⟨rfl, rfl⟩ := h1.int
  obtain ⟨rfl, rfl⟩ := h2.int
  exact ⟨_, _, rfl, rfl, k.int w hg⟩
theorem op2B0 {h : Int → Int → Bool} : Op2 K (rI0 fun i j => .bl (h i j)) m1 m2 m (g2I0 fun i j => .bl (h i j)) := by
  intro B F H x y d e fp R Q w ⟨f1, f2, ef, h1, h2⟩ _ hg k
  cases d <;> try exact hg.elim
  cases e <;> try exact hg.elim
  obtain ⟨rfl, rfl⟩ := h1.int
  obtain ⟨rfl, rfl⟩ := h2.int
  exact ⟨_, _, rfl, rfl, k.bl w hg⟩
theorem op1I {h : Int → Int} : Op1 K (rU fun i => .int (h i)) m1 m (g1I fun i => .int (h i)) := by
  intro B F H x d fp R Q w h1 _ hg k
  cases d <;> try exact hg.elim
  obtain ⟨rfl, rfl⟩ := h1.int
  exact ⟨_, rfl, k.int w hg⟩
end
section
variable {X : Cx} {a b : Expr} {pos : Pos} {m m1 m2 : Mode} {f f' : FE}
abbrev gAddI := g2I0 fun i j => D.int (i + j)
abbrev gSubI := g2I0 fun i j => D.int (i - j)
abbrev gMulI := g2I CMul fun i j => D.int (i * j)
abbrev gDivI := g2I CDiv fun i j => D.int (i / j)
abbrev gModI := g2I (fun _ j => 0 < j) fun i j => D.int (i % j)
abbrev gNegI := g1I fun i => D.int (-i)
abbrev gLt := g2I0 fun i j => D.bl (decide (i < j))
abbrev gLe := g2I0 fun i j => D.bl (decide (i ≤ j))
abbrev gGt := g2I0 fun i j => D.bl (decide (j < i))
abbrev gGe := g2I0 fun i j => D.bl (decide (j ≤ i))
theorem de_add (ha : DE X B a m1 f) (hb : DE X B b m2 f') : DE X B (.BinOp a .Add b pos) m (fBin gAddI f f') := de_op op_add op2I0 ha hb
theorem de_sub (ha : DE X B a m1 f) (hb : DE X B b m2 f') : DE X B (.BinOp a .Sub b pos) m (fBin gSubI f f') := de_op op_sub op2I0 ha hb
theorem de_mul (ha : DE X B a m1 f) (hb : DE X B b m2 f') : DE X B (.BinOp a .Mult b pos) m (fBin gMulI f f') := de_op op_mul op2I ha hb
theorem de_div (ha : DE X B a m1 f) (hb : DE X B b m2 f') : DE X B (.BinOp a .FloorDiv b pos) m (fBin gDivI f f') := de_op op_fdiv op2I ha hb
theorem de_mod (ha : DE X B a m1 f) (hb : DE X B b m2 f') : DE X B (.BinOp a .Mod b pos) m (fBin gModI f f') := de_op op_mod op2I ha hb
theorem de_neg (ha : DE X B a m1 f) : DE X B (.UnaryOp .USub a pos) m (fUn gNegI f) := de_un un_neg op1I ha
theorem de_lt (ha : DE X B a m1 f) (hb : DE X B b m2 f') : DE X B (.Compare a [.Lt] [b] pos) m (fBin gLt f f') := de_cmp op_lt op2B0 ha hb (nomark _)
theorem de_le (ha : DE X B a m1 f) (hb : DE X B b m2 f') : DE X B (.Compare a [.LtE] [b] pos) m (fBin gLe f f') := de_cmp op_le op2B0 ha hb (nomark _)
theorem de_gt (ha : DE X B a m1 f) (hb : DE X B b m2 f') : DE X B (.Compare a [.Gt] [b] pos) m (fBin gGt f f') := de_cmp op_gt op2B0 ha hb (nomark _)
theorem de_ge (ha : DE X B a m1 f) (hb : DE X B b m2 f') : DE X B (.Compare a [.GtE] [b] pos) m (fBin gGe f f') := de_cmp op_ge op2B0 ha hb (nomark _)
end
end GK

namespace GK
open PySem PySem.Spec PyProof.Rows L2

/-! ### new objects -/
section
variable {K : PySem.W.Frag} {B A : List Addr} {F H H' : Hp} {p : Addr} {o : HO}
theorem BagOk.keep (b : BagOk B H) (s : ∀ a ∈ B, ∀ o, H a = some o → H' a = some o) : BagOk B H' := by
  rcases b with e | ⟨b, c, l, ts, cells, left, turn, e, h0, h1, h2, h3, r⟩
  · exact .inl e
  · refine .inr ⟨b, c, l, ts, cells, left, turn, e, fun t ht => ?_, s b ?_ _ h1, s c ?_ _ h2, s l ?_ _ h3, r⟩
    · obtain ⟨o, xs, q⟩ := h0 t ht
      exact ⟨o, xs, s t (by rw [e]; simp [ht]) _ q⟩
    all_goals (rw [e]; simp)
theorem BagOk.there (b : BagOk B H) {a : Addr} (h : a ∈ B) : ∃ o, H a = some o ∧ ¬ isTup o := by
  rcases b with e | ⟨b, c, l, ts, cells, left, turn, e, h0, h1, h2, h3, r⟩
  · rw [e] at h; cases h
  · rw [e] at h
    simp only [List.mem_cons] at h
    rcases h with rfl | rfl | rfl | h
    · exact ⟨_, h1, fun z => z⟩
    · exact ⟨_, h2, fun z => z⟩
    · exact ⟨_, h3, fun z => z⟩
    · obtain ⟨o, xs, q⟩ := h0 a h
      exact ⟨_, q, fun z => z⟩
theorem WF.notB (w : WF B F H) (hp : H p = none) : p ∉ B := fun h => by
  obtain ⟨o, e, _⟩ := w.bag.there h
  rw [hp] at e; cases e
theorem same_upd (hp : H p = none) : ∀ a u, H a = some u → upd H p o a = some u := fun a u e => by rw [upd_ne (ne_of_none e hp)]; exact e
theorem F_none (w : WF B F H) (hp : H p = none) : F p = none := by
  cases q : F p with
  | none => rfl
  | some u =>
    obtain ⟨_, x, e, _⟩ := rdH_some (w.sub p u q)
    rw [hp] at e; cases e
theorem WF.laid (w : WF B F H) (hp : H p = none) (ho : erO o = o) : WF B F (upd H p o) :=
  ⟨fun a u e => rdH_same (fun a u _ h => same_upd hp a u h) a u (w.sub a u e), fun a ob u hb e => by
    by_cases h : a = p
    · subst h
      rw [upd_same] at e
      have e' : o = .frz ob u := Option.some.inj e
      rw [e'] at ho
      have z : u = .frz ob u := ho
      have : sizeOf u = sizeOf (HO.frz ob u) := congrArg sizeOf z
      simp at this
    · rw [upd_ne h] at e; exact w.lock a ob u hb e, w.bag.keep fun a _ u h => same_upd hp a u h⟩
theorem WF.laidF (w : WF B F H) (hp : H p = none) (ho : erO o = o) : WF B (upd F p o) (upd H p o) :=
  ⟨fun a u e => by
    by_cases h : a = p
    · subst h
      rw [upd_same] at e
      cases e
      exact rdH_of (w.notB hp) upd_same ho
    · rw [upd_ne h] at e
      exact (w.laid hp ho).sub a u e, (w.laid hp ho).lock, (w.laid hp ho).bag⟩
theorem Step.laid (w : WF B F H) (hp : H p = none) (ho : erO o = o) : Step B A F H F (upd H p o) :=
  ⟨fun a u _ h => same_upd hp a u h, fun _ _ h => h, fun _ _ h => .inl h, w.laid hp ho⟩
theorem Step.laidF (w : WF B F H) (hp : H p = none) (ho : erO o = o) : Step B A F H (upd F p o) (upd H p o) :=
  ⟨fun a u _ h => same_upd hp a u h, fun a u h => by rw [upd_ne (ne_of_none h (F_none w hp))]; exact h, fun a u h => by
    by_cases e : a = p
    · subst e; exact .inr (.inl hp)
    · rw [upd_ne e] at h; exact .inl h, w.laidF hp ho⟩
theorem erO_of_isTup {vs : List V} : erO (.tup vs) = .tup vs := rfl
theorem OwnL.zero {vs : List V} {ds : List D} (r : RL K F vs ds) : OwnL (Own K F H 0) vs ds [] := by
  cases r with
  | nil => rfl
  | cons h t => exact ⟨[], [], rfl, ⟨h, rfl⟩, OwnL.zero t⟩
termination_by ds.length
variable {R : D → Prop} {Q : VK} {n : Nat} {vs : List V} {ds : List D} {f : List Addr}
/-- a new list of what is owned -/
theorem Post.newLst (k : Post K B A F H (.own (n + 1)) R Q) (w : WF B F H) (hf : Fp B F f) (hA : ∀ a ∈ f, a ∈ A) (h : OwnL (Own K F H n) vs ds f) (q : R (.lst ds)) (hp : H p = none) : Q (.ref p) (upd H p (.lst vs)) := by
  have hf1 : ∀ a ∈ f, ∃ o, H a = some o ∧ Mut (some o) := h.there fun v d f q => Own.there q
  refine k F _ _ (.lst ds) (p :: f) (Step.laid w hp rfl) ⟨p, vs, f, rfl, upd_same, rfl, h.imp fun v d g hg => Own.mono (fun _ _ h => h) fun a _ o e => same_upd hp a o e⟩ (fun a ha => ?_) ?_ q
  · rcases List.mem_cons.mp ha with z | z
    · rw [z]; exact ⟨.inr hp, F_none w hp, w.notB hp⟩
    · exact ⟨.inl (hA a z), hf.1 a z⟩
  · refine List.nodup_cons.mpr ⟨fun z => ?_, hf.2⟩
    obtain ⟨o, e, _⟩ := hf1 p z
    rw [hp] at e; cases e
theorem Post.newLst0 (k : Post K B A F H (.own 1) R Q) (w : WF B F H) (h : RL K F vs ds) (q : R (.lst ds)) (hp : H p = none) : Q (.ref p) (upd H p (.lst vs)) :=
  k.newLst (f := []) w ⟨fun a h => (by cases h), List.nodup_nil⟩ (fun a h => (by cases h)) (OwnL.zero h) q hp
theorem Post.newTup (k : Post K B A F H (.own 0) R Q) (w : WF B F H) (h : RL K F vs ds) (q : R (.tup ds)) (hp : H p = none) : Q (.ref p) (upd H p (.tup vs)) := by
  have s := Step.laidF (A := A) w hp (o := .tup vs) rfl
  exact k _ _ _ (.tup ds) [] s ⟨.tup upd_same (h.mono s.fs), rfl⟩ (fun a h => (by cases h)) List.nodup_nil q
/-- a new tuple of what is owned -/
theorem Post.newTupN (k : Post K B A F H (.own (n + 1)) R Q) (w : WF B F H) (hf : Fp B F f) (hA : ∀ a ∈ f, a ∈ A) (h : OwnL (Own K F H n) vs ds f) (q : R (.tup ds)) (hp : H p = none) : Q (.ref p) (upd H p (.tup vs)) := by
  have hf1 : ∀ a ∈ f, ∃ o, H a = some o ∧ Mut (some o) := h.there fun v d f q => Own.there q
  have s := Step.laidF (A := A) w hp (o := .tup vs) rfl
  refine k _ _ _ (.tup ds) f s ⟨p, vs, rfl, upd_same, h.imp fun v d g hg => Own.mono s.fs fun a _ o e => same_upd hp a o e⟩ (fun a ha => ⟨.inl (hA a ha), ?_, (hf.1 a ha).2⟩) hf.2 q
  obtain ⟨o, e, _⟩ := hf1 a ha
  rw [upd_ne (ne_of_none e hp)]
  exact (hf.1 a ha).1
end

/-! ### argument lists, displays -/
section
variable {X : Cx} {e : Expr} {es : List Expr} {m : Mode} {ms : List Mode} {f : FE} {fs : FA} {pos : Pos}
theorem ValL.step {K : PySem.W.Frag} {B A : List Addr} {F H F' H' : Hp} (s : Step B A F H F' H') : ∀ {ms : List Mode} {vs : List V} {ds : List D} {fp : List Addr}, ValL K B F H ms vs ds fp → (∀ a ∈ fp, a ∉ B) → ValL K B F' H' ms vs ds fp
  | [], [], [], _, h, _ => h
  | m :: ms, v :: vs, d :: ds, fp, ⟨f1, f2, e, h, t⟩, hB => ⟨f1, f2, e, h.step s fun a ha => hB a (by rw [e]; exact List.mem_append_left _ ha), ValL.step s t fun a ha => hB a (by rw [e]; exact List.mem_append_right _ ha)⟩
theorem ValL.there {K : PySem.W.Frag} {B : List Addr} {F H : Hp} : ∀ {ms : List Mode} {vs : List V} {ds : List D} {fp : List Addr}, ValL K B F H ms vs ds fp → ∀ a ∈ fp, ∃ o, H a = some o ∧ Mut (some o)
  | [], [], [], _, h, a, ha => by rw [show _ = _ from h] at ha; cases ha
  | m :: ms, v :: vs, d :: ds, fp, ⟨f1, f2, e, h, t⟩, a, ha => by
    rw [e] at ha
    rcases List.mem_append.mp ha with z | z
    · exact h.there a z
    · exact t.there a z
theorem da_nil : DA X B [] [] fNil := PA.imp pa_nil fun σ H Q ⟨F, ρ, fp, R, S, hf, k⟩ => k F H [] [] [] (Step.refl S.wf) rfl (fun a h => (by cases h)) List.nodup_nil hf
theorem da_cons (h : DE X B e m f) (hr : DA X B es ms fs) (hs : starEach (e :: es) X.env = (false, eval e X.env) :: starEach es X.env := by rfl) : DA X B (e :: es) (m :: ms) (fCons f fs) :=
  PA.imp (pa_cons h hr hs) fun σ H Q ⟨F, ρ, fp, R, S, hf, k⟩ => by
    refine ⟨F, ρ, fp, _, S, hf, fun F1 H1 v1 d1 fp1 s1 hv1 o1 n1 hg1 => ?_⟩
    refine ⟨F1, ρ, fp, _, S.step s1 (fun a ha => by cases ha), hg1, fun F2 H2 v2 d2 fp2 s2 hv2 o2 n2 hg2 => ?_⟩
    have t1 := hv1.there
    have nn : ∀ a ∈ fp1, F2 a = none := fun a ha => by
      obtain ⟨o, e, mu⟩ := t1 a ha
      exact s2.out e mu (o1 a ha).2.2 (o1 a ha).2.1 fun z => by cases z
    refine k F2 H2 (v1 :: v2) (d1 :: d2) (fp1 ++ fp2) (s1.trans s2 fun a ha => by cases ha) ⟨fp1, fp2, rfl, hv1.step s2 fun a ha => (o1 a ha).2.2, hv2⟩ (fun a ha => ?_) ?_ hg2
    · rcases List.mem_append.mp ha with z | z
      · exact ⟨(o1 a z).1, nn a z, (o1 a z).2.2⟩
      · exact ⟨.inr (s1.new (o2 a z).2.2 ((o2 a z).1.elim (fun z => by cases z) id)), (o2 a z).2⟩
    · refine List.nodup_append.mpr ⟨n1, n2, fun a ha b hb e => ?_⟩
      subst e
      obtain ⟨o, e, mu⟩ := t1 a ha
      rcases (o2 a hb).1 with z | z
      · cases z
      · rw [e] at z; cases z
theorem ValL.own {K : PySem.W.Frag} {B : List Addr} {F H : Hp} {n : Nat} : ∀ {ms : List Mode} {vs : List V} {ds : List D} {fp : List Addr}, (∀ m ∈ ms, m = .own n) → ValL K B F H ms vs ds fp → OwnL (Own K F H n) vs ds fp
  | [], [], [], _, _, h => h
  | m :: ms, v :: vs, d :: ds, fp, hm, ⟨f1, f2, e, h, t⟩ => by
    have em := hm m List.mem_cons_self
    subst em
    exact ⟨f1, f2, e, h, ValL.own (fun m h => hm m (List.mem_cons_of_mem _ h)) t⟩
theorem ValL.len {K : PySem.W.Frag} {B : List Addr} {F H : Hp} : ∀ {ms : List Mode} {vs : List V} {ds : List D} {fp : List Addr}, ValL K B F H ms vs ds fp → vs.length = ds.length
  | [], [], [], _, h => rfl
  | m :: ms, v :: vs, d :: ds, fp, ⟨f1, f2, e, h, t⟩ => by rw [List.length_cons, List.length_cons, t.len]
theorem OwnL.toRL0 {K : PySem.W.Frag} {F H : Hp} : ∀ {vs : List V} {ds : List D} {fp : List Addr}, OwnL (Own K F H 0) vs ds fp → RL K F vs ds
  | [], [], _, h => .nil
  | v :: vs, d :: ds, fp, ⟨f1, f2, e, h, t⟩ => .cons h.1 (OwnL.toRL0 t)
def gTup (xs : List D) (R : D → Prop) : Prop := xs.length ≤ sizeLine ∧ R (.tup xs)
def gLst (xs : List D) (R : D → Prop) : Prop := xs.length ≤ sizeLine ∧ R (.lst xs)
/-- (a, b, ..) -/
theorem de_tup {k : Nat} (h : DA X B es ms fs) (hm : ∀ m ∈ ms, m = .own 0 := by simp) : DE X B (.Tuple es k pos) (.own 0) (fArgs gTup fs) := PE.imp (pe_tup h) fun σ H Q ⟨F, ρ, fp, R, S, hf, k⟩ => by
  refine ⟨F, ρ, fp, _, S, hf, fun F1 H1 vs ds fp1 s1 hv o1 n1 hg => ⟨by rw [hv.len]; exact hg.1, fun p hp => ?_⟩⟩
  exact (k.after s1 (A1 := fp1) fun a ha => (o1 a ha).1).newTup s1.wf (hv.own hm).toRL0 hg.2 hp
theorem de_tupN (n : Nat) {k : Nat} (h : DA X B es ms fs) (hm : ∀ m ∈ ms, m = .own n := by simp) : DE X B (.Tuple es k pos) (.own (n + 1)) (fArgs gTup fs) := PE.imp (pe_tup h) fun σ H Q ⟨F, ρ, fp, R, S, hf, k⟩ => by
  refine ⟨F, ρ, fp, _, S, hf, fun F1 H1 vs ds fp1 s1 hv o1 n1 hg => ⟨by rw [hv.len]; exact hg.1, fun p hp => ?_⟩⟩
  exact (k.after s1 (A1 := fp1) fun a ha => (o1 a ha).1).newTupN s1.wf ⟨fun a ha => (o1 a ha).2, n1⟩ (fun _ h => h) (hv.own hm) hg.2 hp
/-- [a, b, ..] -/
theorem de_lst (n : Nat) (h : DA X B es ms fs) (hm : ∀ m ∈ ms, m = .own n := by simp) : DE X B (.List es pos) (.own (n + 1)) (fArgs gLst fs) := PE.imp (pe_lst h) fun σ H Q ⟨F, ρ, fp, R, S, hf, k⟩ => by
  refine ⟨F, ρ, fp, _, S, hf, fun F1 H1 vs ds fp1 s1 hv o1 n1 hg => ⟨by rw [hv.len]; exact hg.1, fun p hp => ?_⟩⟩
  exact (k.after s1 (A1 := fp1) fun a ha => (o1 a ha).1).newLst s1.wf ⟨fun a ha => (o1 a ha).2, n1⟩ (fun _ h => h) (hv.own hm) hg.2 hp
end
end GK

namespace GK
open PySem PySem.Spec PyProof.Rows L2

/-! ### statements over data -/
structure DEnds where
  nx : Env → Prop
  rt : D → Env → Prop
  bk : Env → Prop := fun _ => False
  ct : Env → Prop := fun _ => False
abbrev FS := DEnds → Env → Prop
abbrev FM := Env → (D → Env → Prop) → Prop
/-- the addresses of a value, apart from all else -/
def Apart (B : List Addr) (Z0 F : Hp) (fp f : List Addr) : Prop := (∀ a ∈ f, F a = none ∧ a ∉ B ∧ Z0 a = none ∧ a ∉ fp) ∧ f.Nodup
structure Links (K : PySem.W.Frag) (B : List Addr) (Pn : List V) (Z0 F0 : Hp) (mr : Mode) (E : DEnds) (Dn : Ends) : Prop where
  nx : ∀ F H σ ρ fp, StOk K B Pn Z0 F0 F H σ ρ fp → E.nx ρ → Dn.nx σ H
  rt : ∀ F H σ ρ fp v d f, StOk K B Pn Z0 F0 F H σ ρ fp → Val K mr B F H v d f → Apart B Z0 F fp f → E.rt d ρ → Dn.rt v H
  bk : ∀ F H σ ρ fp, StOk K B Pn Z0 F0 F H σ ρ fp → E.bk ρ → Dn.bk σ H
  ct : ∀ F H σ ρ fp, StOk K B Pn Z0 F0 F H σ ρ fp → E.ct ρ → Dn.ct σ H
def tDS (K : PySem.W.Frag) (B : List Addr) (pin : Nat) (mr : Mode) (g : FS) : TS := fun Dn σ H =>
  ∃ Pn Z0 F0 F ρ fp E, Pn.length = pin ∧ StOk K B Pn Z0 F0 F H σ ρ fp ∧ g E ρ ∧ Links K B Pn Z0 F0 mr E Dn
/-- an expression that may change what the names own -/
def tDM (K : PySem.W.Frag) (B : List Addr) (pin : Nat) (m : Mode) (f : FM) : TE := fun σ H Q =>
  ∃ Pn Z0 F0 F ρ fp R, Pn.length = pin ∧ StOk K B Pn Z0 F0 F H σ ρ fp ∧ f ρ R ∧
    ∀ F' H' ρ' fp' v d f', StOk K B Pn Z0 F0 F' H' σ ρ' fp' → Val K m B F' H' v d f' → Apart B Z0 F' fp' f' → R d ρ' → Q v H'
abbrev DS (X : Cx) (B : List Addr) (st : Stmt) (pin : Nat) (mr : Mode) (g : FS) : Prop := PS X st (tDS X.K B pin mr g)
abbrev DSs (X : Cx) (B : List Addr) (st : List Stmt) (pin : Nat) (mr : Mode) (g : FS) : Prop := PSs X st (tDS X.K B pin mr g)
abbrev DM (X : Cx) (B : List Addr) (e : Expr) (pin : Nat) (m : Mode) (f : FM) : Prop := PE X e (tDM X.K B pin m f)
abbrev mOf (f : FE) : FM := fun ρ R => f ρ fun d => R d ρ

section
variable {K : PySem.W.Frag} {B A fp : List Addr} {Pn : List V} {Z0 F0 F F' H H' : Hp} {σ : L2.St} {ρ : Env} {m : Mode} {n : Nat}
theorem tDM_of {pin : Nat} {f : FE} {Q : VK} (h : tDM K B pin m (mOf f) σ H Q) : tD K B m f σ H Q := by
  obtain ⟨Pn, Z0, F0, F, ρ, fp, R, _, S, hf, k⟩ := h
  refine ⟨F, ρ, fp, _, S.base, hf, fun F' H' v d f' s hv ho hn hR => k F' H' ρ fp v d f' (S.step s fun a h => (by cases h)) hv ⟨fun a ha => ?_, hn⟩ hR⟩
  obtain ⟨h1, h2, h3⟩ := ho a ha
  have hz : H a = none := h1.elim (fun h => by cases h) id
  refine ⟨h2, h3, ?_, fun hm => ?_⟩
  · cases q : Z0 a with
    | none => rfl
    | some o => rw [S.z a o q] at hz; cases hz
  · obtain ⟨o, e, _⟩ := S.own.there a hm
    rw [hz] at e; cases e
theorem dm_of {X : Cx} {e : Expr} {pin : Nat} {f : FE} (h : DE X B e m f) : DM X B e pin m (mOf f) := PE.imp h fun _ _ _ q => tDM_of q
theorem nd_comm {α : Type} {a b : List α} (h : (a ++ b).Nodup) : (b ++ a).Nodup := by
  obtain ⟨h1, h2, h3⟩ := List.nodup_append.mp h
  exact List.nodup_append.mpr ⟨h2, h1, fun x hx y hy e => h3 y hy x hx e.symm⟩
theorem OwnE.set {v : V} {d : D} {f : List Addr} (h : Own K F H n v d f) : ∀ {σ : L2.St} {ρ : Env} {fp : List Addr} {i : Nat}, OwnE K F H σ ρ fp → (fp ++ f).Nodup → i < ρ.length →
    ∃ fp', OwnE K F H (σ.set i (some v)) (ρ.set i (some (n, d))) fp' ∧ fp'.Nodup ∧ ∀ a ∈ fp', a ∈ fp ∨ a ∈ f
  | [], [], fp, i, _, _, hi => by simp at hi
  | x :: σ, none :: ρ, fp, 0, ho, nd, _ => ⟨f ++ fp, ⟨f, fp, rfl, h, ho⟩, nd_comm nd, fun a ha => (List.mem_append.mp ha).symm⟩
  | x :: σ, none :: ρ, fp, i + 1, ho, nd, hi => OwnE.set (σ := σ) (ρ := ρ) h ho nd (by simpa using hi)
  | some w :: σ, some (k, e) :: ρ, fp, 0, ⟨f1, f2, ef, h1, t⟩, nd, _ => by
    subst ef
    refine ⟨f ++ f2, ⟨f, f2, rfl, h, t⟩, ?_, fun a ha => ?_⟩
    · rw [List.append_assoc] at nd
      exact nd_comm (List.nodup_append.mp nd).2.1
    · rcases List.mem_append.mp ha with z | z
      · exact .inr z
      · exact .inl (List.mem_append_right _ z)
  | some w :: σ, some (k, e) :: ρ, fp, i + 1, ⟨f1, f2, ef, h1, t⟩, nd, hi => by
    subst ef
    rw [List.append_assoc] at nd
    obtain ⟨n1, n2, n3⟩ := List.nodup_append.mp nd
    obtain ⟨fp', o', nd', sub⟩ := OwnE.set (σ := σ) (ρ := ρ) (i := i) h t n2 (by simpa using hi)
    refine ⟨f1 ++ fp', ⟨f1, fp', rfl, h1, o'⟩, List.nodup_append.mpr ⟨n1, nd', fun a ha b hb e => ?_⟩, fun a ha => ?_⟩
    · subst e
      rcases sub a hb with z | z
      · exact n3 a ha a (List.mem_append_left _ z) rfl
      · exact n3 a ha a (List.mem_append_right _ z) rfl
    · rcases List.mem_append.mp ha with z | z
      · exact .inl (List.mem_append_left _ z)
      · rcases sub a z with z | z
        · exact .inl (List.mem_append_right _ z)
        · exact .inr z
  | _ :: _, [], _, _, h, _, _ => by cases h
  | [], _ :: _, _, _, h, _, _ => by cases h
  | none :: _, some _ :: _, _, _, h, _, _ => by cases h
/-- a name is stored -/
theorem StOk.set {v : V} {d : D} {f : List Addr} {i : Nat} (S : StOk K B Pn Z0 F0 F H σ ρ fp) (h : Own K F H n v d f) (ap : Apart B Z0 F fp f) (hi : i < ρ.length) (hp : Pn.length ≤ i) :
    ∃ fp', StOk K B Pn Z0 F0 F H (σ.set i (some v)) (ρ.set i (some (n, d))) fp' := by
  have nd : (fp ++ f).Nodup := List.nodup_append.mpr ⟨S.nd, ap.2, fun a ha b hb e => by
    subst e
    exact (ap.1 a hb).2.2.2 ha⟩
  obtain ⟨fp', o', nd', sub⟩ := OwnE.set h S.own nd hi
  refine ⟨fp', S.wf, o', nd', fun a ha => ?_, S.z, S.zB, S.f, S.fr, fun j w e => ?_⟩
  · rcases sub a ha with z | z
    · exact S.out a z
    · obtain ⟨h1, h2, h3, _⟩ := ap.1 a z
      exact ⟨h1, h2, h3⟩
  · have hj : j < Pn.length := (List.getElem?_eq_some_iff.mp e).1
    rw [List.getElem?_set_ne (by omega)]
    exact S.pn j w e
/-- a name's value is taken away -/
theorem OwnE.take {d : D} : ∀ {σ : L2.St} {ρ : Env} {fp : List Addr} {i : Nat}, OwnE K F H σ ρ fp → fp.Nodup → GK.slot ρ i = some (n, d) →
    ∃ v f fp', σ[i]? = some (some v) ∧ Own K F H n v d f ∧ OwnE K F H σ (ρ.set i none) fp' ∧ (fp' ++ f).Nodup ∧ ∀ a ∈ fp' ++ f, a ∈ fp
  | [], [], fp, i, _, _, e => by cases e
  | x :: σ, none :: ρ, fp, 0, ho, nd, e => by cases e
  | x :: σ, none :: ρ, fp, i + 1, ho, nd, e => OwnE.take (σ := σ) (ρ := ρ) (i := i) ho nd e
  | some w :: σ, some (k, e) :: ρ, fp, 0, ⟨f1, f2, ef, h1, t⟩, nd, q => by
    subst ef
    cases q
    exact ⟨w, f1, f2, rfl, h1, t, nd_comm nd, fun a ha => List.mem_append.mpr (List.mem_append.mp ha).symm⟩
  | some w :: σ, some (k, e) :: ρ, fp, i + 1, ⟨f1, f2, ef, h1, t⟩, nd, q => by
    subst ef
    obtain ⟨n1, n2, n3⟩ := List.nodup_append.mp nd
    obtain ⟨v, f, fp', e1, e2, e3, e4, e5⟩ := OwnE.take (σ := σ) (ρ := ρ) (i := i) t n2 q
    refine ⟨v, f, f1 ++ fp', e1, e2, ⟨f1, fp', rfl, h1, e3⟩, ?_, fun a ha => ?_⟩
    · rw [List.append_assoc]
      exact List.nodup_append.mpr ⟨n1, e4, fun a ha b hb e => n3 a ha b (e5 b hb) e⟩
    · rw [List.append_assoc] at ha
      rcases List.mem_append.mp ha with z | z
      · exact List.mem_append_left _ z
      · exact List.mem_append_right _ (e5 a z)
  | _ :: _, [], _, _, h, _, _ => by cases h
  | [], _ :: _, _, _, h, _, _ => by cases h
  | none :: _, some _ :: _, _, _, h, _, _ => by cases h
theorem StOk.take {d : D} {i : Nat} (S : StOk K B Pn Z0 F0 F H σ ρ fp) (e : slot ρ i = some (n, d)) :
    ∃ v f fp', σ[i]? = some (some v) ∧ Own K F H n v d f ∧ StOk K B Pn Z0 F0 F H σ (ρ.set i none) fp' ∧ Apart B Z0 F fp' f ∧ ∀ a ∈ fp' ++ f, a ∈ fp := by
  obtain ⟨v, f, fp', e1, e2, e3, e4, e5⟩ := S.own.take S.nd e
  obtain ⟨n1, n2, n3⟩ := List.nodup_append.mp e4
  refine ⟨v, f, fp', e1, e2, ⟨S.wf, e3, n1, fun a ha => S.out a (e5 a (List.mem_append_left _ ha)), S.z, S.zB, S.f, S.fr, S.pn⟩, ⟨fun a ha => ?_, n2⟩, e5⟩
  obtain ⟨h1, h2, h3⟩ := S.out a (e5 a (List.mem_append_right _ ha))
  exact ⟨h1, h2, h3, fun z => n3 a z a ha rfl⟩
/-- what is owned is frozen: its addresses go to what may be read -/
theorem StOk.frzV {v : V} {d : D} {f : List Addr} (S : StOk K B Pn Z0 F0 F H σ ρ fp) (h : Own K F H n v d f) (ap : Apart B Z0 F fp f) : ∃ F', StOk K B Pn Z0 F0 F' H σ ρ fp ∧ R K F' v d ∧ Step B f F H F' H := by
  have sF : Same F (fun a => if a ∈ f then H a else F a) := fun a u e => by
    show (if a ∈ f then H a else F a) = some u
    by_cases ha : a ∈ f
    · rw [(ap.1 a ha).1] at e; cases e
    · rw [if_neg ha]; exact e
  have s : Step B f F H (fun a => if a ∈ f then H a else F a) H := ⟨fun _ _ _ h => h, sF, fun a u e => by
      by_cases ha : a ∈ f
      · exact .inr (.inr (.inr ha))
      · rw [if_neg ha] at e; exact .inl e, ⟨fun a u e => by
      by_cases ha : a ∈ f
      · rw [if_pos ha] at e
        obtain ⟨o, eo, mu⟩ := h.there a ha
        rw [eo] at e; cases e
        exact rdH_of (ap.1 a ha).2.1 eo (mut_er mu)
      · rw [if_neg ha] at e; exact S.wf.sub a u e, S.wf.lock, S.wf.bag⟩⟩
  refine ⟨_, S.step s (fun a ha => ⟨(ap.1 a ha).2.2.2, (ap.1 a ha).2.2.1⟩), h.toR sF fun a ha o e _ => ?_, s⟩
  show (if a ∈ f then H a else F a) = some o
  rw [if_pos ha]; exact e
/-- .. as a name's value -/
def frzE : Env → Nat → Env
  | [], _ => []
  | some (_, d) :: r, 0 => some (0, d) :: r
  | none :: r, 0 => none :: r
  | o :: r, i + 1 => o :: frzE r i
theorem frzE_set : ∀ {ρ : Env} {i : Nat} {d : D}, slot ρ i = some (n, d) → frzE ρ i = (ρ.set i none).set i (some (0, d))
  | [], i, d, e => by cases e
  | o :: r, 0, d, e => by cases e; rfl
  | o :: r, i + 1, d, e => by
    have ih := frzE_set (ρ := r) (i := i) (d := d) e
    cases o <;> exact congrArg (List.cons _) ih
theorem frzE_none : ∀ {ρ : Env} {i : Nat}, slot ρ i = none → frzE ρ i = ρ
  | [], i, e => rfl
  | none :: r, 0, e => rfl
  | some p :: r, 0, e => by cases e
  | none :: r, i + 1, e => congrArg (List.cons _) (frzE_none (ρ := r) (i := i) e)
  | some p :: r, i + 1, e => congrArg (List.cons _) (frzE_none (ρ := r) (i := i) e)
theorem slot_lt : ∀ {ρ : Env} {i : Nat} {p : Nat × D}, slot ρ i = some p → i < ρ.length
  | [], i, p, e => by cases e
  | o :: r, 0, p, e => Nat.succ_pos _
  | o :: r, i + 1, p, e => Nat.succ_lt_succ (slot_lt (ρ := r) e)
theorem set_self {α : Type} {x : α} : ∀ {l : List α} {i : Nat}, l[i]? = some x → l.set i x = l
  | [], i, e => rfl
  | y :: l, 0, e => by cases e; rfl
  | y :: l, i + 1, e => congrArg (List.cons y) (set_self (l := l) (i := i) e)
theorem OwnE.set0 {v : V} {d : D} (h : R K F v d) : ∀ {σ : L2.St} {ρ : Env} {fp : List Addr} {i : Nat}, OwnE K F H σ ρ fp → σ[i]? = some (some v) → GK.slot ρ i = none → OwnE K F H σ (ρ.set i (some (0, d))) fp
  | [], [], fp, i, h, e, _ => by simp at e
  | x :: σ, none :: ρ, fp, 0, ho, e, _ => by
    have e' : x = some v := Option.some.inj e
    subst e'
    exact ⟨[], fp, rfl, ⟨h, rfl⟩, ho⟩
  | x :: σ, none :: ρ, fp, i + 1, ho, e, q => OwnE.set0 (σ := σ) (ρ := ρ) (i := i) h ho e q
  | some w :: σ, some (k, e) :: ρ, fp, 0, _, _, q => by cases q
  | some w :: σ, some (k, e) :: ρ, fp, i + 1, ⟨f1, f2, ef, h1, t⟩, q, z => ⟨f1, f2, ef, h1, OwnE.set0 (σ := σ) (ρ := ρ) (i := i) h t q z⟩
  | _ :: _, [], _, _, h, _, _ => by cases h
  | [], _ :: _, _, _, h, _, _ => by cases h
  | none :: _, some _ :: _, _, _, h, _, _ => by cases h
theorem slot_unset : ∀ {ρ : Env} {i : Nat}, slot (ρ.set i none) i = none
  | [], i => rfl
  | o :: r, 0 => rfl
  | o :: r, i + 1 => slot_unset (ρ := r)
theorem StOk.frz (S : StOk K B Pn Z0 F0 F H σ ρ fp) (i : Nat) : ∃ F' fp', StOk K B Pn Z0 F0 F' H σ (frzE ρ i) fp' := by
  cases e : slot ρ i with
  | none => rw [frzE_none e]; exact ⟨F, fp, S⟩
  | some p =>
    obtain ⟨n, d⟩ := p
    obtain ⟨v, f, fp', e1, e2, e3, e4, _⟩ := S.take e
    obtain ⟨F', S', r, _⟩ := e3.frzV e2 e4
    rw [frzE_set e]
    exact ⟨F', fp', S'.wf, S'.own.set0 r e1 slot_unset, S'.nd, S'.out, S'.z, S'.zB, S'.f, S'.fr, S'.pn⟩
end

/-! ### statements -/
section
variable {X : Cx} {st : Stmt} {sts : List Stmt} {e : Expr} {pin : Nat} {mr m : Mode} {g g' : FS} {f : FM} {pos : Pos}
theorem Links.seq {K : PySem.W.Frag} {B : List Addr} {Pn : List V} {Z0 F0 : Hp} {E : DEnds} {Dn : Ends} (hp : Pn.length = pin) (L : Links K B Pn Z0 F0 mr E Dn) : Links K B Pn Z0 F0 mr { E with nx := g E } { Dn with nx := tDS K B pin mr g Dn } :=
  ⟨fun F H σ ρ fp S hg => ⟨Pn, Z0, F0, F, ρ, fp, E, hp, S, hg, L⟩, L.rt, L.bk, L.ct⟩
abbrev gSeq (g g' : FS) : FS := fun E ρ => g { E with nx := g' E } ρ
theorem ds_cons (h1 : DS X B st pin mr g) (h2 : DSs X B sts pin mr g') : DSs X B (st :: sts) pin mr (gSeq g g') :=
  PSs.imp (pss_cons h1 h2) fun Dn σ H ⟨Pn, Z0, F0, F, ρ, fp, E, hp, S, hg, L⟩ => ⟨Pn, Z0, F0, F, ρ, fp, _, hp, S, hg, L.seq hp⟩
theorem ds_one (h1 : DS X B st pin mr g) : DSs X B [st] pin mr g := pss_one h1
theorem ds_nil : DSs X B [] pin mr (fun E ρ => E.nx ρ) := PSs.imp pss_nil fun Dn σ H ⟨Pn, Z0, F0, F, ρ, fp, E, hp, S, hg, L⟩ => L.nx F H σ ρ fp S hg
theorem ds_pass : DS X B (.Pass pos) pin mr (fun E ρ => E.nx ρ) := PS.imp ps_pass fun Dn σ H ⟨Pn, Z0, F0, F, ρ, fp, E, hp, S, hg, L⟩ => L.nx F H σ ρ fp S hg
theorem ds_break : DS X B (.Break pos) pin mr (fun E ρ => E.bk ρ) := PS.imp ps_break fun Dn σ H ⟨Pn, Z0, F0, F, ρ, fp, E, hp, S, hg, L⟩ => L.bk F H σ ρ fp S hg
theorem ds_continue : DS X B (.Continue pos) pin mr (fun E ρ => E.ct ρ) := PS.imp ps_continue fun Dn σ H ⟨Pn, Z0, F0, F, ρ, fp, E, hp, S, hg, L⟩ => L.ct F H σ ρ fp S hg
/-- a name is frozen ahead of a statement -/
theorem ds_frz (i : Nat) (h : DS X B st pin mr g) : DS X B st pin mr (fun E ρ => g E (frzE ρ i)) :=
  PS.imp h fun Dn σ H ⟨Pn, Z0, F0, F, ρ, fp, E, hp, S, hg, L⟩ => by
    obtain ⟨F', fp', S'⟩ := S.frz i
    exact ⟨Pn, Z0, F0, F', _, fp', E, hp, S', hg, L⟩
/-- x = e -/
abbrev gSet (i n : Nat) (f : FM) : FS := fun E ρ => i < ρ.length ∧ f ρ fun d ρ' => E.nx (ρ'.set i (some (n, d)))
theorem ds_setM (i n : Nat) {x : Str} {pos' : Pos} (hN : X.N.Nodup) (hi : X.N[i]? = some x) (hx : Loc X.env.scope x) (hp : pin ≤ i) (he : DM X B e pin (.own n) f) (hs : swapsWith e (some (.Name x pos')) pos.line X.env = pure false := by rfl)
    (hf : X.fn x = true ∨ X.env.scope.names.lookup x = some .local := by first | exact .inl rfl | exact .inr rfl | assumption) : DS X B (.Assign [.Name x pos'] e pos) pin mr (fun E ρ => f ρ fun d ρ' => i < ρ'.length ∧ E.nx (ρ'.set i (some (n, d)))) :=
  PS.imp (ps_set hN hi hx he hs hf) fun Dn σ H ⟨Pn, Z0, F0, F, ρ, fp, E, hpl, S, hg, L⟩ => ⟨Pn, Z0, F0, F, ρ, fp, _, hpl, S, hg, fun F' H' ρ' fp' v d f' S' hv ap hR => by
    obtain ⟨fp2, S2⟩ := S'.set hv ap hR.1 (by omega)
    exact L.nx F' H' _ _ fp2 S2 hR.2⟩
/-- e; its value dropped -/
theorem ds_exprM (he : DM X B e pin m f) (hs : swapsWith e none pos.line X.env = pure false := by rfl) : DS X B (.Expr e pos) pin mr (fun E ρ => f ρ fun _ ρ' => E.nx ρ') :=
  PS.imp (ps_expr he hs) fun Dn σ H ⟨Pn, Z0, F0, F, ρ, fp, E, hpl, S, hg, L⟩ => ⟨Pn, Z0, F0, F, ρ, fp, _, hpl, S, hg, fun F' H' ρ' fp' v d f' S' hv ap hR => L.nx F' H' σ ρ' fp' S' hR⟩
/-- return e -/
theorem ds_retM (he : DM X B e pin mr f) : DS X B (.Return (some e) pos) pin mr (fun E ρ => f ρ E.rt) :=
  PS.imp (ps_ret he) fun Dn σ H ⟨Pn, Z0, F0, F, ρ, fp, E, hpl, S, hg, L⟩ => ⟨Pn, Z0, F0, F, ρ, fp, _, hpl, S, hg, fun F' H' ρ' fp' v d f' S' hv ap hR => L.rt F' H' σ ρ' fp' v d f' S' hv ap hR⟩
theorem ds_retN : DS X B (.Return none pos) pin mr (fun E ρ => E.rt .non ρ) :=
  PS.imp ps_retN fun Dn σ H ⟨Pn, Z0, F0, F, ρ, fp, E, hpl, S, hg, L⟩ => L.rt F H σ ρ fp .non .non [] S (Val.atom rfl fun _ => .non) ⟨fun a h => (by cases h), List.nodup_nil⟩ hg
/-- the value of a name, taken away from it -/
def mTake (i n : Nat) : FM := fun ρ R => match slot ρ i with
  | some (k, d) => k = n ∧ R d (ρ.set i none)
  | none => False
theorem dm_take (i n : Nat) {x : Str} (hN : X.N[i]? = some x := by rfl) (hv : Vis X.env.scope x := by first | exact Or.inl rfl | exact Or.inr (Or.inl rfl) | exact Or.inr (Or.inr rfl)) (hd : (x == ("__debug__" : Str)) = false := by decide)
    (hcd : (x == ("__classdict__" : Str)) = false := by decide) : DM X B (.Name x pos) pin (.own n) (mTake i n) := PE.imp (pe_var hN hv hd hcd) fun σ H Q ⟨Pn, Z0, F0, F, ρ, fp, R, hpl, S, hf, k⟩ => by
  unfold mTake at hf
  cases q : slot ρ i with
  | none => rw [q] at hf; exact hf.elim
  | some p =>
    obtain ⟨n', d⟩ := p
    rw [q] at hf
    obtain ⟨rfl, hR⟩ := hf
    obtain ⟨v, f, fp', e1, e2, e3, e4, _⟩ := S.take q
    exact ⟨v, e1, k F H _ fp' v d f e3 e2 e4 hR⟩
/-- if -/
theorem ds_if {c : Expr} {a b : List Stmt} {fc : FT} (hc : DT X B c fc) (ha : DSs X B a pin mr g) (hb : DSs X B b pin mr g') : DS X B (.If c a b pos) pin mr (fun E ρ => fc ρ fun t => if t = true then g E ρ else g' E ρ) :=
  PS.imp (ps_if hc ha hb) fun Dn σ H ⟨Pn, Z0, F0, F, ρ, fp, E, hpl, S, hg, L⟩ => ⟨F, ρ, fp, _, S.base, hg, fun F' H' t s ht => by
    have S' := S.step s fun a h => (by cases h)
    cases t with
    | true => exact ⟨Pn, Z0, F0, F', ρ, fp, E, hpl, S', ht, L⟩
    | false => exact ⟨Pn, Z0, F0, F', ρ, fp, E, hpl, S', by simpa using ht, L⟩⟩
end
end GK

namespace GK
open PySem PySem.Spec PyProof.Rows L2

/-! ### while -/
section
variable {X : Cx} {pin : Nat} {mr : Mode} {g gb : FS} {fc : FT} {pos : Pos}
def gWhile (fc : FT) (gb : FS) : FS := fun E ρ => ∃ W : Nat → Env → Prop, (∃ m, W m ρ) ∧ ∀ m ρ, W m ρ → fc ρ fun t => if t = true then gb { E with nx := fun ρ' => ∃ m', m' < m ∧ W m' ρ', ct := fun ρ' => ∃ m', m' < m ∧ W m' ρ', bk := E.nx } ρ else E.nx ρ
theorem ds_while {c : Expr} {body : List Stmt} (hp : PassesOwn (model X.prog X.w) X.A X.env X.xe) (hc : DT X B c fc) (hb : DSs X B body pin mr gb) : DS X B (.While c body [] pos) pin mr (gWhile fc gb) :=
  PS.imp (ps_while hp hc hb) fun Dn σ H ⟨Pn, Z0, F0, F, ρ, fp, E, hpl, S, ⟨W, ⟨m0, w0⟩, turn⟩, L⟩ => by
    refine ⟨fun m σ H => ∃ F ρ fp, StOk X.K B Pn Z0 F0 F H σ ρ fp ∧ W m ρ, ⟨m0, F, ρ, fp, S, w0⟩, ?_⟩
    rintro m σ H ⟨F, ρ, fp, S, w⟩
    refine ⟨F, ρ, fp, _, S.base, turn m ρ w, fun F' H' t s ht => ?_⟩
    have S' := S.step s fun a h => (by cases h)
    cases t with
    | true =>
      dsimp only at ht ⊢
      rw [if_pos rfl] at ht ⊢
      refine ⟨fun σ' H' => ∃ F ρ fp, StOk X.K B Pn Z0 F0 F H' σ' ρ fp ∧ ∃ m', m' < m ∧ W m' ρ, fun σ' H' ⟨F, ρ, fp, S, m', hm, w'⟩ => ⟨m', hm, F, ρ, fp, S, w'⟩, ?_⟩
      exact ⟨Pn, Z0, F0, F', ρ, fp, _, hpl, S', ht, ⟨fun F H σ ρ fp S h => ⟨F, ρ, fp, S, h⟩, L.rt, L.nx, fun F H σ ρ fp S h => ⟨F, ρ, fp, S, h⟩⟩⟩
    | false =>
      dsimp only at ht ⊢
      rw [if_neg Bool.false_ne_true] at ht ⊢
      exact L.nx F' H' σ ρ fp S' ht
end

/-! ### what is walked -/
/-- what stands and is nobody's -/
def prot (B fp : List Addr) (H : Hp) : Hp := fun a => if a ∈ fp ∨ a ∈ B then none else H a
/-- the iterator gives these things, one by one, wherever what stood stands -/
def ItD (K : PySem.W.Frag) (B : List Addr) (Z F1 : Hp) (J : It) (xs : List D) : Prop := ∀ (i : Nat) (F H : Hp), WF B F H → Same Z H → Same F1 F →
  (i < xs.length → J.go i H ∧ ∀ x H', J.yld i H x H' → ∃ F' d, xs[i]? = some d ∧ Step B [] F H F' H' ∧ R K F' x d) ∧ (xs.length ≤ i → J.stop i H)
abbrev FI := Env → (List D → Prop) → Prop
def tDI (K : PySem.W.Frag) (B : List Addr) (fi : FI) : TI := fun σ H R => ∃ F ρ fp Rx, StOk K B [] noH noH F H σ ρ fp ∧ fi ρ Rx ∧
  ∀ J F1 H1 xs, Step B [] F H F1 H1 → ItD K B (prot B fp H1) F1 J xs → Rx xs → R J H1
abbrev DI (X : Cx) (B : List Addr) (tg iter : Expr) (fi : FI) : Prop := PI X tg iter (tDI X.K B fi)
theorem PI.imp {X : Cx} {tg iter : Expr} {t t' : TI} (h : PI X tg iter t) (k : ∀ σ H R, t' σ H R → t σ H R) : PI X tg iter t' := ⟨fun pins s σ H R I q => h.run pins s σ H R I (k σ H R q)⟩
/-- a target: what the names are behind it -/
structure DG (X : Cx) (pin : Nat) (tg : Expr) (t : D → Env → Option Env) : Prop where
  ok : ∃ g : TG, PG X tg g ∧ ∀ (B : List Addr) (Pn : List V) (Z0 F0 F H : Hp) (σ : L2.St) (ρ ρ' : Env) (fp : List Addr) (v : V) (d : D), Pn.length = pin → StOk X.K B Pn Z0 F0 F H σ ρ fp → R X.K F v d → t d ρ = some ρ' →
    ∀ Q : L2.St → Hp → Prop, (∀ σ' fp', StOk X.K B Pn Z0 F0 F H σ' ρ' fp' → Q σ' H) → g v σ H Q
section
variable {K : PySem.W.Frag} {B fp : List Addr} {F F1 H H1 : Hp}
theorem prot_same : Same (prot B fp H) H := fun a o e => by
  unfold prot at e
  split at e
  · cases e
  · exact e
theorem prot_in {a : Addr} (h : a ∈ fp ∨ a ∈ B) : prot B fp H a = none := by unfold prot; rw [if_pos h]
theorem prot_out {a : Addr} (h : a ∉ fp) (h' : a ∉ B) : prot B fp H a = H a := by unfold prot; rw [if_neg (by simp [h, h'])]
/-- what may be read is nobody's -/
theorem StOk.protF {Pn : List V} {Z0 F0 : Hp} {σ : L2.St} {ρ : Env} (S : StOk K B Pn Z0 F0 F H σ ρ fp) {a : Addr} {u : HO} (h : F a = some u) : ∃ x, prot B fp H a = some x ∧ erO x = u := by
  obtain ⟨hb, x, e, n⟩ := rdH_some (S.wf.sub a u h)
  refine ⟨x, ?_, n⟩
  rw [prot_out (fun hf => ?_) hb]
  · exact e
  · rw [(S.out a hf).1] at h; cases h
/-- the state, with all that is nobody's kept from here on -/
theorem StOk.rebase {Pn : List V} {Z0 F0 : Hp} {σ : L2.St} {ρ : Env} (S : StOk K B Pn Z0 F0 F H σ ρ fp) : StOk K B Pn (prot B fp H) F F H σ ρ fp :=
  ⟨S.wf, S.own, S.nd, fun a ha => ⟨(S.out a ha).1, (S.out a ha).2.1, prot_in (.inl ha)⟩, prot_same, fun a h => prot_in (.inr h), fun _ _ h => h, fun a u h => .inl h, S.pn⟩
theorem StOk.zp {Pn : List V} {Z0 F0 : Hp} {σ : L2.St} {ρ : Env} (S : StOk K B Pn Z0 F0 F H σ ρ fp) : Same Z0 (prot B fp H) := fun a o e => by
  have h1 : a ∉ fp := fun h => by rw [(S.out a h).2.2] at e; cases e
  have h2 : a ∉ B := fun h => by rw [S.zB a h] at e; cases e
  rw [prot_out h1 h2]; exact S.z a o e
theorem Apart.unbase {Z Z' : Hp} {f : List Addr} (s : Same Z Z') (ap : Apart B Z' F fp f) : Apart B Z F fp f :=
  ⟨fun a ha => ⟨(ap.1 a ha).1, (ap.1 a ha).2.1, s.free (ap.1 a ha).2.2.1, (ap.1 a ha).2.2.2⟩, ap.2⟩
/-- .. and back -/
theorem StOk.unbase {Pn : List V} {Z0 F0 F' H' : Hp} {σ σ' : L2.St} {ρ ρ' : Env} {fp' : List Addr} (S : StOk K B Pn Z0 F0 F H σ ρ fp) (T : StOk K B Pn (prot B fp H) F F' H' σ' ρ' fp') : StOk K B Pn Z0 F0 F' H' σ' ρ' fp' := by
  have zp := S.zp
  refine ⟨T.wf, T.own, T.nd, fun a ha => ⟨(T.out a ha).1, (T.out a ha).2.1, ?_⟩, fun a o e => T.z a o (zp a o e), S.zB, fun a u e => T.f a u (S.f a u e), fun a u e => ?_, T.pn⟩
  · cases q : Z0 a with
    | none => rfl
    | some o =>
      have := (T.out a ha).2.2
      rw [zp a o q] at this; cases this
  · rcases T.fr a u e with z | z | z
    · exact S.fr a u z
    · right; left
      cases q : Z0 a with
      | none => rfl
      | some o => rw [zp a o q] at z; cases z
    · exact .inr (.inr z)
end

/-- the turns of a for -/
def forD (t : D → Env → Option Env) (gb : FS) : List D → FS
  | [] => fun E ρ => E.nx ρ
  | x :: xs => fun E ρ => ∃ ρ', t x ρ = some ρ' ∧ gb { E with nx := fun ρ' => forD t gb xs E ρ', ct := fun ρ' => forD t gb xs E ρ', bk := E.nx } ρ'
def gFor (fi : FI) (t : D → Env → Option Env) (gb : FS) : FS := fun E ρ => fi ρ fun xs => forD t gb xs E ρ
section
variable {X : Cx} {pin : Nat} {mr : Mode} {g gb : FS} {fi : FI} {t : D → Env → Option Env} {pos : Pos}
theorem ds_for {tg iter : Expr} {body : List Stmt} (hp : PassesOwn (model X.prog X.w) X.A X.env X.xe) (hc : X.calm = true) (hi : DI X B tg iter fi) (hg : DG X pin tg t) (hb : DSs X B body pin mr gb)
    (hs : ∀ x, foldedSetIterable iter X.env x = pure x := by intro _; rfl) : DS X B (.For tg iter body [] pos) pin mr (gFor fi t gb) := by
  obtain ⟨g, pg, kg⟩ := hg.ok
  refine PS.imp (ps_for hp hc hi pg hb hs) fun Dn σ H ⟨Pn, Z0, F0, F, ρ, fp, E, hpl, S, hf, L⟩ => ⟨F, ρ, fp, _, S.base, hf, fun J F1 H1 xs s1 it hx => ?_⟩
  have S1 := S.step s1 fun a h => (by cases h)
  refine ⟨fun i m σ H => ∃ F ρ fp', StOk X.K B Pn (prot B fp H1) F1 F H σ ρ fp' ∧ m = xs.length - i ∧ i ≤ xs.length ∧ forD t gb (xs.drop i) E ρ, ⟨xs.length, F1, ρ, fp, S1.rebase, rfl, Nat.zero_le _, hx⟩, ?_⟩
  rintro i m σ H ⟨F, ρ, fp', S, rfl, hi, hr⟩
  obtain ⟨k1, k2⟩ := it i F H S.wf S.z S.f
  by_cases hlt : i < xs.length
  · refine .inr ⟨(k1 hlt).1, fun σ' H' => ∃ F ρ fp', StOk X.K B Pn (prot B fp H1) F1 F H' σ' ρ fp' ∧ forD t gb (xs.drop (i + 1)) E ρ, fun σ' H' ⟨F, ρ, fp', S, h⟩ => ⟨xs.length - (i + 1), by omega, F, ρ, fp', S, rfl, hlt, h⟩, fun x H' y => ?_⟩
    obtain ⟨F2, d, ed, s2, r2⟩ := (k1 hlt).2 x H' y
    have S2 := S.step s2 fun a h => (by cases h)
    rw [List.drop_eq_getElem_cons hlt] at hr
    have ed' : xs[i] = d := Option.some.inj ((List.getElem?_eq_getElem hlt).symm.trans ed)
    rw [ed'] at hr
    obtain ⟨ρ', et, hb'⟩ := hr
    refine kg B Pn _ F1 F2 H' σ ρ ρ' fp' x d hpl S2 r2 et _ fun σ2 fp2 S3 => ?_
    exact ⟨Pn, _, F1, F2, ρ', fp2, _, hpl, S3, hb', ⟨fun F H σ ρ fp S h => ⟨F, ρ, fp, S, h⟩, fun F H σ ρ fp' v d f S hv ap h => L.rt F H σ ρ fp' v d f (S1.unbase S) hv (ap.unbase S1.zp) h,
      fun F H σ ρ fp S h => L.nx F H σ ρ fp (S1.unbase S) h, fun F H σ ρ fp S h => ⟨F, ρ, fp, S, h⟩⟩⟩
  · have e : i = xs.length := by omega
    subst e
    rw [List.drop_length] at hr
    exact .inl ⟨k2 (Nat.le_refl _), L.nx F H σ ρ fp' (S1.unbase S) hr⟩
end
end GK

namespace GK
open PySem PySem.Spec PyProof.Rows L2

/-! ### a def's promise over data: wp of the arguments and of what is wanted -/
abbrev FSpec := List D → (D → Prop) → Prop
/-- .. that may name the bag -/
abbrev BSpec := List Addr → FSpec
def spD (K : PySem.W.Frag) (m : Mode) (W : BSpec) : Sp := fun vs H Q _ => ∃ B F ds R, WF B F H ∧ RL K F vs ds ∧ W B ds R ∧ Post K B [] F H m R Q
/-- as a state -/
def envOf : List D → Env := List.map fun d => some (0, d)
def startE (N : List Str) (ds : List D) : Env := envOf ds ++ List.replicate (N.length - ds.length) none
section
variable {K : PySem.W.Frag} {F H : Hp}
theorem ownE_none : ∀ n : Nat, OwnE K F H (List.replicate n none) (List.replicate n none) []
  | 0 => rfl
  | n + 1 => ownE_none n
theorem ownE_start {vs : List V} {ds : List D} (n : Nat) : RL K F vs ds → OwnE K F H (vs.map some ++ List.replicate n none) (envOf ds ++ List.replicate n none) []
  | .nil => ownE_none n
  | .cons h t => ⟨[], [], rfl, ⟨h, rfl⟩, ownE_start n t⟩
theorem start_eq {N : List Str} {vs : List V} : start N vs = vs.map some ++ List.replicate (N.length - vs.length) none := rfl
end
/-- the ends of a def -/
abbrev DEnds.fn (R : D → Prop) : DEnds := { nx := fun _ => R .non, rt := fun d _ => R d }
section
variable {P : Program} {w : World} {K : PySem.W.Frag} {mg : Str → Option Value} {base : Heap}
/-- THE RULE for a def -/
theorem Fun_okD {x qual : Str} {st : Stmt} {f : Addr} {fd : FuncData} {N ps : List Str} {k : Nat} {m : Mode} {W : BSpec} (F : Fun K x qual st f fd) (S : FnScope N ps (defScope st)) (len : ∀ B ds R, W B ds R → ds.length = ps.length)
    (hbody : ∀ (B : List Addr) (cdv : Value) (A : Around) (outer : List PySem.Env) (s : Shared) (H : Hp) (E : XK), Room k (A.deeper (envOfC qual (defScope st) s.heap.objs.size f cdv)) →
      ∃ g, DSs (cxOf CX0 P w K mg base N qual (defScope st) f cdv A outer s H E).nox B (defBody st) 0 m g ∧ ∀ ds R, W B ds R → g (DEnds.fn R) (startE N ds)) : FnOk P w K mg base CX0 (k + 1) f fd ps (spD K m W) := by
  refine F.ok S (fun vs H Q E ⟨B, F, ds, R, w, r, hW, k⟩ => by rw [r.length]; exact len B ds R hW) fun cdv A outer s H vs Q E hr ⟨B, F, ds, R, w, r, hW, k⟩ => ?_
  obtain ⟨g, hg, hq⟩ := hbody B cdv A outer s H E hr
  refine ⟨_, hg, [], prot B [] H, F, F, startE N ds, [], DEnds.fn R, rfl, ⟨w, ?_, List.nodup_nil, fun a h => (by cases h), prot_same, fun a h => prot_in (.inr h), fun _ _ h => h, fun a u h => .inl h, fun i v e => (by simp at e)⟩, hq ds R hW, ?_⟩
  · rw [start_eq]
    unfold startE
    rw [r.length]
    exact ownE_start _ r
  have back : ∀ {F' H' : Hp} {σ' : L2.St} {ρ' : Env} {fp' : List Addr}, StOk K B [] (prot B [] H) F F' H' σ' ρ' fp' → Step B [] F H F' H' := fun {F' H' σ' ρ' fp'} T =>
    ⟨fun a o hb e => T.z a o (by rw [prot_out (by simp) hb]; exact e), T.f, fun a u e => by
      rcases T.fr a u e with z | z | z
      · exact .inl z
      · right; left
        by_cases hb : a ∈ B
        · have := T.wf.outB hb
          rw [this] at e; cases e
        · rw [prot_out (by simp) hb] at z; exact z
      · exact .inr (.inr (.inl z)), T.wf⟩
  exact ⟨fun F' H' σ' ρ' fp' T h => k F' H' .non .non [] (back T) (Val.atom rfl fun _ => .non) (fun a h => (by cases h)) List.nodup_nil h,
    fun F' H' σ' ρ' fp' v d f T hv ap h => k F' H' v d f (back T) hv (fun a ha => by
      obtain ⟨h1, h2, h3, h4⟩ := ap.1 a ha
      refine ⟨.inr ?_, h1, h2⟩
      rw [prot_out (by simp) h2] at h3; exact h3) ap.2 h,
    fun _ _ _ _ _ _ h => h.elim, fun _ _ _ _ _ _ h => h.elim⟩
end

/-! ### calls -/
theorem ValL.rl0 {K : PySem.W.Frag} {B : List Addr} {F H : Hp} {ms : List Mode} {vs : List V} {ds : List D} {fp : List Addr} (hm : ∀ m ∈ ms, m = .own 0) (h : ValL K B F H ms vs ds fp) : RL K F vs ds := (h.own hm).toRL0
theorem ValL.rd {K : PySem.W.Frag} {B : List Addr} {F H : Hp} (w : WF B F H) : ∀ {ms : List Mode} {vs : List V} {ds : List D} {fp : List Addr}, (∀ a ∈ fp, a ∉ B) → ValL K B F H ms vs ds fp → RL K (rdH B H) vs ds
  | [], [], [], _, _, h => .nil
  | m :: ms, v :: vs, d :: ds, fp, hB, ⟨f1, f2, e, h, t⟩ => .cons (h.rd w fun a ha => hB a (by rw [e]; exact List.mem_append_left _ ha)) (ValL.rd w (fun a ha => hB a (by rw [e]; exact List.mem_append_right _ ha)) t)
section
variable {K : PySem.W.Frag} {B A : List Addr} {F F' H H' : Hp} {n : Nat} {R : D → Prop} {Q : VK} {W : BSpec} {vs : List V} {ds : List D}
theorem wf_rd (w : WF B F H) : WF B (rdH B H) H := ⟨fun _ _ h => h, w.lock, w.bag⟩
/-- a call whose arguments are all that may be read -/
theorem call_all {m : Mode} (w : WF B F H) (r : RL K F vs ds) (h : W B ds R) (k : Post K B A F H m R Q) : spD K m W vs H Q fun _ _ _ => False :=
  ⟨B, F, ds, R, w, r, h, k.after (Step.refl w) fun a h => (by cases h)⟩
/-- a call whose arguments are some that others own: what comes back is flat below what is new -/
theorem call_rd (w : WF B F H) (r : RL K (rdH B H) vs ds) (h : W B ds fun d => flatN n d = true ∧ R d) (k : Post K B A F H (.own n) R Q) : spD K (.own n) W vs H Q fun _ _ _ => False := by
  refine ⟨B, rdH B H, ds, _, wf_rd w, r, h, fun F' H' v d fp s hv ho hn hR => ?_⟩
  have hv : Own K F' H' n v d fp := hv
  have s2 : Step B A F H F H' := ⟨s.same, fun _ _ h => h, fun _ _ h => .inl h, ⟨fun a u e => rdH_same s.same a u (w.sub a u e), s.wf.lock, s.wf.bag⟩⟩
  have ht := hv.there
  refine k _ H' v d fp s2.addT (Own.flat (fun a vs e => addT_tup s2.wf.sub (s.wf.sub _ _ e)) hR.1 hv) (fun a ha => ?_) hn hR.2
  obtain ⟨h1, h2, h3⟩ := ho a ha
  refine ⟨h1.elim (fun h => by cases h) .inr, ?_, h3⟩
  have hz : H a = none := h1.elim (fun h => by cases h) id
  obtain ⟨o, e, mu⟩ := ht a ha
  cases q : addT F (rdH B H') a with
  | none => rfl
  | some u =>
    exfalso
    rcases addT_cases q with z | ⟨z, t⟩
    · rw [F_none w hz] at z; cases z
    · obtain ⟨_, x, ex, er⟩ := rdH_some z
      rw [e] at ex; cases ex
      rw [mut_er mu] at er; subst er
      cases o <;> first | exact mu | exact t
end
/-- is any argument another's -/
abbrev gCall (W : FSpec) (xs : List D) (R : D → Prop) : Prop := W xs R
abbrev gCallR (n : Nat) (W : FSpec) (xs : List D) (R : D → Prop) : Prop := W xs fun d => flatN n d = true ∧ R d
section
variable {X : Cx} {k : Nat} {fa C : Addr} {fd : FuncData} {ps : List Str} {ds : List Value} {dvs : List V} {x : Str} {p pos apos : Pos} {e o : Expr} {es : List Expr} {m mo : Mode} {ms : List Mode} {fs : FA} {fo : FE} {W : BSpec} {dd : List D} {n : Nat}
/-- what a call of a def wants of its defaults: they are data of the written part -/
abbrev Dflt (K : PySem.W.Frag) (dvs : List V) (dd : List D) : Prop := ∀ F, RL K F dvs dd
theorem de_call (F : FnOk X.prog X.w X.K X.mg X.base CX0 k fa fd ps (spD X.K m W)) (hr : Room k X.A) (hg : Gl X x) (hm : X.mg x = some (.ref fa)) (hk : PySem.W.keepIn X.K (.ref fa) = true) (hb : Binds X.K fd ps ds) (hd : Vals dvs ds) (hdd : Dflt X.K dvs dd)
    (ha : DA X B (e :: es) ms fs) (hms : ∀ m ∈ ms, m = .own 0 := by simp) (hdb : (x == ("__debug__" : Str)) = false := by decide) (he : starEach (e :: es) X.env = (false, eval e X.env) :: starEach es X.env := by rfl) (hpl : (backTo pos (starEach es X.env)).any (·.1) = false := by rfl) :
    DE X B (.Call (.Name x p) (e :: es) [] pos) m (fArgs (fun xs R => W B (xs ++ dd) R) fs) :=
  PE.imp (pe_call F hr hg hm hk hb hd pass0 ha hdb he hpl) fun σ H Q ⟨F, ρ, fp, R, S, hf, k⟩ => ⟨F, ρ, fp, _, S, hf, fun F1 H1 vs xs fp1 s1 hv o1 n1 hW =>
    call_all s1.wf ((hv.rl0 hms).append (hdd F1)) hW (k.after s1 (A1 := fp1) fun a ha => (o1 a ha).1)⟩
theorem de_callR (F : FnOk X.prog X.w X.K X.mg X.base CX0 k fa fd ps (spD X.K (.own n) W)) (hr : Room k X.A) (hg : Gl X x) (hm : X.mg x = some (.ref fa)) (hk : PySem.W.keepIn X.K (.ref fa) = true) (hb : Binds X.K fd ps ds) (hd : Vals dvs ds) (hdd : Dflt X.K dvs dd)
    (ha : DA X B (e :: es) ms fs) (hdb : (x == ("__debug__" : Str)) = false := by decide) (he : starEach (e :: es) X.env = (false, eval e X.env) :: starEach es X.env := by rfl) (hpl : (backTo pos (starEach es X.env)).any (·.1) = false := by rfl) :
    DE X B (.Call (.Name x p) (e :: es) [] pos) (.own n) (fArgs (fun xs R => W B (xs ++ dd) fun d => flatN n d = true ∧ R d) fs) :=
  PE.imp (pe_call F hr hg hm hk hb hd pass0 ha hdb he hpl) fun σ H Q ⟨F, ρ, fp, R, S, hf, k⟩ => ⟨F, ρ, fp, _, S, hf, fun F1 H1 vs xs fp1 s1 hv o1 n1 hW =>
    call_rd s1.wf ((hv.rd s1.wf fun a ha => (o1 a ha).2.2).append (hdd _)) hW (k.after s1 (A1 := fp1) fun a ha => (o1 a ha).1)⟩
theorem de_call0 (F : FnOk X.prog X.w X.K X.mg X.base CX0 k fa fd ps (spD X.K m W)) (hr : Room k X.A) (hg : Gl X x) (hm : X.mg x = some (.ref fa)) (hk : PySem.W.keepIn X.K (.ref fa) = true) (hb : Binds X.K fd ps ds) (hd : Vals dvs ds) (hdd : Dflt X.K dvs dd)
    (hdb : (x == ("__debug__" : Str)) = false := by decide) : DE X B (.Call (.Name x p) [] [] pos) m (fun _ R => W B dd R) :=
  PE.imp (pe_call0 F hr hg hm hk hb hd pass0 hdb) fun σ H Q ⟨F, ρ, fp, R, S, hf, k⟩ => by
    have := call_all (K := X.K) (vs := [] ++ dvs) (ds := dd) S.wf (hdd F) hf k
    exact this
/-- o.m(e, ..) : the object is one that may be read -/
theorem lookup_none {fs : List (Str × V)} {es : List (Str × D)} {m : Str} (hk : fs.map (·.1) = es.map (·.1)) (h : es.lookup m = none) : fs.lookup m = none := by
  induction fs generalizing es with
  | nil => rfl
  | cons p r ih =>
    cases es with
    | nil => cases hk
    | cons q s =>
      rw [List.map_cons, List.map_cons] at hk
      injection hk with h1 h2
      obtain ⟨pk, pv⟩ := p
      obtain ⟨qk, qv⟩ := q
      dsimp only at h1
      subst h1
      rw [List.lookup_cons] at h ⊢
      cases hb : m == pk with
      | true => rw [hb] at h; cases h
      | false => rw [hb] at h; exact ih h2 h
theorem lookup_some {fs : List (Str × V)} {es : List (Str × D)} {m : Str} {d : D} (hk : fs.map (·.1) = es.map (·.1)) (h : es.lookup m = some d) : ∃ (i : Nat) (v : V), fs.lookup m = some v ∧ (fs.map (·.2))[i]? = some v ∧ (es.map (·.2))[i]? = some d := by
  induction fs generalizing es with
  | nil =>
    cases es with
    | nil => cases h
    | cons q s => cases hk
  | cons p r ih =>
    cases es with
    | nil => cases hk
    | cons q s =>
      rw [List.map_cons, List.map_cons] at hk
      injection hk with h1 h2
      obtain ⟨pk, pv⟩ := p
      obtain ⟨qk, qv⟩ := q
      dsimp only at h1
      subst h1
      rw [List.lookup_cons] at h ⊢
      cases hb : m == pk with
      | true =>
        rw [hb] at h
        exact ⟨0, pv, rfl, rfl, by simpa using h⟩
      | false =>
        rw [hb] at h
        obtain ⟨i, v, e1, e2, e3⟩ := ih h2 h
        exact ⟨i + 1, v, e1, by simpa using e2, by simpa using e3⟩
/-- an instance of the class, without an attribute of the method's name -/
def isObjD (C : Addr) (m : Str) : D → Prop
  | .obj C' es => C' = C ∧ es.lookup m = none
  | _ => False
theorem isObjD.inv {C : Addr} {m : Str} : ∀ {d : D}, isObjD C m d → ∃ es, d = .obj C es ∧ es.lookup m = none
  | .obj C' es, h => ⟨es, by rw [h.1], h.2⟩
  | .non, h | .bl _, h | .int _, h | .str _, h | .raw _, h | .kp _, h | .tup _, h | .lst _, h | .dK _, h | .dT _, h => h.elim
theorem de_meth {mt : Str} {pl : Sem Bool} (ho : DE X B o (.own 0) fo) (c : Cls X.K C) (hm : Meth X.K C mt fa) (F : FnOk X.prog X.w X.K X.mg X.base CX0 k fa fd ps (spD X.K m W)) (hr : Room k X.A) (hb : Binds X.K fd ps ds) (hd : Vals dvs ds) (hdd : Dflt X.K dvs dd)
    (ha : DA X B (e :: es) ms fs) (hms : ∀ m ∈ ms, m = .own 0 := by simp)
    (hst : starEach (e :: es) X.env = (false, eval e X.env) :: starEach es X.env := by rfl) (hpl : (backTo pos (starEach es X.env)).any (·.1) = false := by rfl)
    (ht : eval (.Call (.Attribute o mt apos) (e :: es) [] pos) X.env = (do
      let ov ← eval o X.env
      standAt apos.atName
      let (f, first) ← holding [ov] (getMethod ov mt pl)
      callWith pos f first (backTo pos (starEach (e :: es) X.env)) (backToKw pos (keywordEach [] X.env))) := by rfl) :
    DE X B (.Call (.Attribute o mt apos) (e :: es) [] pos) m (fun ρ R => fo ρ fun x => isObjD C mt x ∧ fs ρ fun xs => W B (x :: (xs ++ dd)) R) :=
  PE.imp (pe_meth ho c hm F hr hb hd pass0 ha hst hpl ht) fun σ H Q ⟨F, ρ, fp, R, S, hf, k⟩ => by
    refine ⟨F, ρ, fp, _, S, hf, fun F1 H1 v x f1 s1 hv o1 n1 ⟨hx, hg⟩ => ?_⟩
    obtain ⟨es', rfl, hl'⟩ := hx.inv
    obtain ⟨ef, a, dx, gs, ev, ea, hk, it⟩ := hv.obj rfl s1.wf
    subst ev
    refine ⟨a, dx, gs, rfl, ea, lookup_none hk hl', F1, ρ, fp, _, S.step s1 (fun a ha => by cases ha), hg, fun F2 H2 vs xs f2 s2 hv2 o2 n2 hW => ?_⟩
    have hx1 : GK.R X.K F2 (.ref a) (.obj C es') := hv.1.mono s2.fs
    exact call_all s2.wf (.cons hx1 ((hv2.rl0 hms).append (hdd F2))) hW ((k.after s1 (A1 := []) fun a ha => (by cases ha)).after s2 (A1 := f2) fun a ha => (o2 a ha).1)
end
end GK

namespace GK
open PySem PySem.Spec PyProof.Rows L2

/-! ### attributes -/
def gFld (C : Addr) (f : Str) : D → (D → Prop) → Prop
  | .obj C' es, R => C' = C ∧ ∃ d, es.lookup f = some d ∧ R d
  | _, _ => False
section
variable {X : Cx} {e : Expr} {f : Str} {pos : Pos} {m : Mode} {fo : FE} {C : Addr}
theorem de_fld (he : DE X B e m fo) (hm : m.look = true) (c : Cls X.K C) (nf : NoAttr X.K C f) (hb : attributeBase e f X.env (eval e X.env) = eval e X.env := by rfl) : DE X B (.Attribute e f pos) m.child (fUn (gFld C f) fo) :=
  PE.imp (pe_fld he hb) fun σ H Q h => tD_un (m := m.child) (g := gFld C f) (f := fo) (r := fun x H1 Q => ∃ a C' dx fs v, x = .ref a ∧ H1 a = some (.ins C' dx fs) ∧ Cls X.K C' ∧ NoAttr X.K C' f ∧ fs.lookup f = some v ∧ Q v H1) (by
    intro B F H x d fp R Q w hv hf hg k
    cases d <;> try exact hg.elim
    rename_i C' es
    obtain ⟨rfl, d, hl, hR⟩ := hg
    obtain ⟨ef, a, dx, fs, ev, ea, hk, it⟩ := hv.obj hm w
    obtain ⟨i, v, e1, e2, e3⟩ := lookup_some hk hl
    obtain ⟨v', e4, hv'⟩ := it.2 i d e3
    rw [e2] at e4
    cases e4
    exact ⟨a, C', dx, fs, v, ev, ea, c, nf, e1, k.val w hv' hR⟩) h
end
theorem ne_mem {l : List Addr} {a b : Addr} (h : b ∈ l) (h' : a ∉ l) : b ≠ a := fun z => by subst z; exact h' h
/-! ### what changes an object: it is taken out of its name, changed, and put back -/
section
variable {K : PySem.W.Frag} {B fp : List Addr} {Pn : List V} {Z0 F0 F H : Hp} {σ : L2.St} {ρ : Env} {n : Nat}
theorem StOk.put {v : V} {d : D} {f : List Addr} {i : Nat} (S : StOk K B Pn Z0 F0 F H σ ρ fp) (h : Own K F H n v d f) (ap : Apart B Z0 F fp f) (hi : i < ρ.length) (hv : σ[i]? = some (some v)) :
    ∃ fp', StOk K B Pn Z0 F0 F H σ (ρ.set i (some (n, d))) fp' := by
  have nd : (fp ++ f).Nodup := List.nodup_append.mpr ⟨S.nd, ap.2, fun a ha b hb e => by
    subst e
    exact (ap.1 a hb).2.2.2 ha⟩
  obtain ⟨fp', o', nd', sub⟩ := OwnE.set h S.own nd hi
  rw [set_self hv] at o'
  refine ⟨fp', S.wf, o', nd', fun a ha => ?_, S.z, S.zB, S.f, S.fr, S.pn⟩
  rcases sub a ha with z | z
  · exact S.out a z
  · obtain ⟨h1, h2, h3, _⟩ := ap.1 a z
    exact ⟨h1, h2, h3⟩
theorem WF.mut {a : Addr} {o : HO} (w : WF B F H) (hF : F a = none) (hB : a ∉ B) (ho : erO o = o) : WF B F (upd H a o) :=
  ⟨fun b u e => by
    have hb : b ≠ a := fun z => by rw [z, hF] at e; cases e
    obtain ⟨hB', x, ex, er⟩ := rdH_some (w.sub b u e)
    exact rdH_of hB' (by rw [upd_ne hb]; exact ex) er, fun b ob u hb e => by
    by_cases h : b = a
    · subst h
      rw [upd_same] at e
      have e' : o = .frz ob u := Option.some.inj e
      rw [e'] at ho
      have z : u = .frz ob u := ho
      have : sizeOf u = sizeOf (HO.frz ob u) := congrArg sizeOf z
      simp at this
    · rw [upd_ne h] at e; exact w.lock b ob u hb e, w.bag.keep fun b hb u h => by
    rw [upd_ne (ne_mem hb hB)]; exact h⟩
theorem StOk.mut {a : Addr} {o : HO} (S : StOk K B Pn Z0 F0 F H σ ρ fp) (ha : a ∉ fp) (hF : F a = none) (hB : a ∉ B) (hZ : Z0 a = none) (ho : erO o = o) : StOk K B Pn Z0 F0 F (upd H a o) σ ρ fp :=
  ⟨S.wf.mut hF hB ho, S.own.mono (fun _ _ h => h) fun b hb u e => by rw [upd_ne (ne_mem hb ha)]; exact e, S.nd, S.out, fun b u e => by
    rw [upd_ne (fun z => by rw [z, hZ] at e; cases e)]; exact S.z b u e, S.zB, S.f, S.fr, S.pn⟩
/-- the node at the top of an owned thing is changed: more may be owned then -/
theorem StOk.change {d : D} {i : Nat} {P : Addr → HO → List Addr → Prop} (S : StOk K B Pn Z0 F0 F H σ ρ fp) (e : slot ρ i = some (n + 1, d))
    (hd : ∀ v f, Own K F H (n + 1) v d f → ∃ a g o, v = .ref a ∧ f = a :: g ∧ H a = some o ∧ P a o g) :
    ∃ a g o, σ[i]? = some (some (.ref a)) ∧ H a = some o ∧ P a o g ∧ a ∉ g ∧ g.Nodup ∧ (∀ b ∈ a :: g, b ∈ fp) ∧ ∀ o' d' g' fc, erO o' = o' → Apart B Z0 F fp fc → (∀ b ∈ g', b ∈ g ∨ b ∈ fc) → g'.Nodup →
      Own K F (upd H a o') (n + 1) (.ref a) d' (a :: g') → ∃ fp', StOk K B Pn Z0 F0 F (upd H a o') σ (ρ.set i (some (n + 1, d'))) fp' := by
  obtain ⟨v, f, fp1, e1, e2, S1, ap1, sub⟩ := S.take e
  obtain ⟨a, g, o, rfl, rfl, ha, hP⟩ := hd v f e2
  obtain ⟨hag, hg⟩ := List.nodup_cons.mp ap1.2
  refine ⟨a, g, o, e1, ha, hP, hag, hg, fun b hb => sub b (List.mem_append_right _ hb), fun o' d' g' fc ho ap hs hn' ho' => ?_⟩
  obtain ⟨h1, h2, h3, h4⟩ := ap1.1 a List.mem_cons_self
  have S2 := S1.mut h4 h1 h2 h3 ho
  have hi : i < (ρ.set i none).length := by rw [List.length_set]; exact slot_lt e
  have hac : a ∉ fc := fun z => (ap.1 a z).2.2.2 (sub a (List.mem_append_right _ List.mem_cons_self))
  have ap' : Apart B Z0 F fp1 (a :: g') := by
    refine ⟨fun b hb => ?_, List.nodup_cons.mpr ⟨fun z => (hs a z).elim hag hac, hn'⟩⟩
    rcases List.mem_cons.mp hb with z | z
    · rw [z]; exact ⟨h1, h2, h3, h4⟩
    · rcases hs b z with q | q
      · exact ap1.1 b (List.mem_cons_of_mem _ q)
      · obtain ⟨k1, k2, k3, k4⟩ := ap.1 b q
        exact ⟨k1, k2, k3, fun r => k4 (sub b (List.mem_append_left _ r))⟩
  obtain ⟨fp', S3⟩ := S2.put (i := i) ho' ap' hi e1
  rw [List.set_set] at S3
  exact ⟨fp', S3⟩
theorem own_lst {ds : List D} : ∀ v f, Own K F H (n + 1) v (.lst ds) f → ∃ a g o, v = .ref a ∧ f = a :: g ∧ H a = some o ∧ ∃ vs, o = .lst vs ∧ OwnL (Own K F H n) vs ds g :=
  fun v f ⟨a, vs, g, e1, e2, e3, e4⟩ => ⟨a, g, .lst vs, e1, e3, e2, vs, rfl, e4⟩
theorem own_dK {es : List (Key × D)} : ∀ v f, Own K F H (n + 1) v (.dK es) f → ∃ a g o, v = .ref a ∧ f = a :: g ∧ H a = some o ∧ ∃ kvs, o = .dK kvs ∧ kvs.map (·.1) = es.map (·.1) ∧ OwnL (Own K F H n) (kvs.map (·.2)) (es.map (·.2)) g :=
  fun v f ⟨a, vs, g, e1, e2, e3, e4, e5⟩ => ⟨a, g, .dK vs, e1, e3, e2, vs, rfl, e4, e5⟩
theorem own_dT {es : List (List Key × D)} : ∀ v f, Own K F H (n + 1) v (.dT es) f → ∃ a g o, v = .ref a ∧ f = a :: g ∧ H a = some o ∧ ∃ kvs, o = .dT kvs ∧ kvs.map (·.1) = es.map (·.1) ∧ OwnL (Own K F H n) (kvs.map (·.2)) (es.map (·.2)) g :=
  fun v f ⟨a, vs, g, e1, e2, e3, e4, e5⟩ => ⟨a, g, .dT vs, e1, e3, e2, vs, rfl, e4, e5⟩
theorem own_obj {C : Addr} {es : List (Str × D)} : ∀ v f, Own K F H (n + 1) v (.obj C es) f → ∃ a g o, v = .ref a ∧ f = a :: g ∧ H a = some o ∧ ∃ dx fs, o = .ins C dx fs ∧ fs.map (·.1) = es.map (·.1) ∧ OwnL (Own K F H n) (fs.map (·.2)) (es.map (·.2)) g :=
  fun v f ⟨a, dx, vs, g, e1, e2, e3, e4, e5⟩ => ⟨a, g, .ins C dx vs, e1, e3, e2, dx, vs, rfl, e4, e5⟩
/-- what was owned stays so when another node changes -/
theorem OwnL.upd {vs : List V} {ds : List D} {g : List Addr} {a : Addr} {o : HO} (h : OwnL (Own K F H n) vs ds g) (ha : a ∉ g) : OwnL (Own K F (upd H a o) n) vs ds g :=
  h.imp fun v d f hf => Own.mono (fun _ _ h => h) fun b hb u e => by rw [upd_ne (ne_mem (hf b hb) ha)]; exact e
theorem Own.upd {v : V} {d : D} {g : List Addr} {a : Addr} {o : HO} (h : Own K F H n v d g) (ha : a ∉ g) : Own K F (upd H a o) n v d g :=
  Own.mono (fun _ _ h => h) (fun b hb u e => by rw [upd_ne (ne_mem hb ha)]; exact e) h
theorem OwnL.append {P : V → D → List Addr → Prop} : ∀ {vs ws : List V} {ds es : List D} {f g : List Addr}, OwnL P vs ds f → OwnL P ws es g → OwnL P (vs ++ ws) (ds ++ es) (f ++ g)
  | [], ws, [], es, f, g, h, k => by
    have e : f = [] := h
    rw [e]; exact k
  | v :: vs, ws, d :: ds, es, f, g, ⟨f1, f2, e, h, t⟩, k => ⟨f1, f2 ++ g, by rw [e, List.append_assoc], h, OwnL.append t k⟩
theorem OwnL.one {P : V → D → List Addr → Prop} {v : V} {d : D} {f : List Addr} (h : P v d f) : OwnL P [v] [d] f := ⟨f, [], (List.append_nil f).symm, h, rfl⟩
theorem OwnL.set {P : V → D → List Addr → Prop} {v : V} {d : D} {g : List Addr} (q : P v d g) : ∀ {vs : List V} {ds : List D} {f : List Addr} (i : Nat), OwnL P vs ds f → (f ++ g).Nodup → ∃ f', OwnL P (vs.set i v) (ds.set i d) f' ∧ (∀ a ∈ f', a ∈ f ∨ a ∈ g) ∧ f'.Nodup
  | [], [], f, i, h, nd => ⟨f, h, fun a ha => .inl ha, (List.nodup_append.mp nd).1⟩
  | v' :: vs, d' :: ds, f, 0, ⟨f1, f2, e, h, t⟩, nd => by
    subst e
    refine ⟨g ++ f2, ⟨g, f2, rfl, q, t⟩, fun a ha => ?_, ?_⟩
    · rcases List.mem_append.mp ha with z | z
      · exact .inr z
      · exact .inl (List.mem_append_right _ z)
    · rw [List.append_assoc] at nd
      exact nd_comm (List.nodup_append.mp nd).2.1
  | v' :: vs, d' :: ds, f, i + 1, ⟨f1, f2, e, h, t⟩, nd => by
    subst e
    rw [List.append_assoc] at nd
    obtain ⟨n1, n2, n3⟩ := List.nodup_append.mp nd
    obtain ⟨f', h', sub, nd'⟩ := OwnL.set q i t n2
    refine ⟨f1 ++ f', ⟨f1, f', rfl, h, h'⟩, fun a ha => ?_, List.nodup_append.mpr ⟨n1, nd', fun a ha b hb e => ?_⟩⟩
    · rcases List.mem_append.mp ha with z | z
      · exact .inl (List.mem_append_left _ z)
      · rcases sub a z with z | z
        · exact .inl (List.mem_append_right _ z)
        · exact .inr z
    · subst e
      rcases sub a hb with z | z
      · exact n3 a ha a (List.mem_append_left _ z) rfl
      · exact n3 a ha a (List.mem_append_right _ z) rfl
/-- some are left out -/
theorem OwnL.erase {P : V → D → List Addr → Prop} : ∀ {vs : List V} {ds : List D} {f : List Addr} (i : Nat), OwnL P vs ds f → f.Nodup → ∃ f', OwnL P (vs.eraseIdx i) (ds.eraseIdx i) f' ∧ (∀ a ∈ f', a ∈ f) ∧ f'.Nodup ∧
      ∀ v, vs[i]? = some v → ∃ d g, ds[i]? = some d ∧ P v d g ∧ (f' ++ g).Nodup ∧ ∀ a ∈ g, a ∈ f
  | [], [], f, i, h, nd => ⟨f, h, fun a ha => ha, nd, fun v e => by simp at e⟩
  | v' :: vs, d' :: ds, f, 0, ⟨f1, f2, e, h, t⟩, nd => by
    subst e
    obtain ⟨n1, n2, n3⟩ := List.nodup_append.mp nd
    refine ⟨f2, t, fun a ha => List.mem_append_right _ ha, n2, fun v e => ⟨d', f1, rfl, ?_, nd_comm nd, fun a ha => List.mem_append_left _ ha⟩⟩
    have e' : v' = v := Option.some.inj e
    subst e'; exact h
  | v' :: vs, d' :: ds, f, i + 1, ⟨f1, f2, e, h, t⟩, nd => by
    subst e
    obtain ⟨n1, n2, n3⟩ := List.nodup_append.mp nd
    obtain ⟨f', h', sub, nd', k⟩ := OwnL.erase i t n2
    refine ⟨f1 ++ f', ⟨f1, f', rfl, h, h'⟩, fun a ha => ?_, List.nodup_append.mpr ⟨n1, nd', fun a ha b hb e => n3 a ha b (sub b hb) e⟩, fun v e => ?_⟩
    · rcases List.mem_append.mp ha with z | z
      · exact List.mem_append_left _ z
      · exact List.mem_append_right _ (sub a z)
    · obtain ⟨d, g, e1, e2, e3, e4⟩ := k v e
      refine ⟨d, g, e1, e2, ?_, fun a ha => List.mem_append_right _ (e4 a ha)⟩
      rw [List.append_assoc]
      exact List.nodup_append.mpr ⟨n1, e3, fun a ha b hb e => n3 a ha b ((List.mem_append.mp hb).elim (sub b) (e4 b)) e⟩
end
end GK

namespace GK
open PySem PySem.Spec PyProof.Rows L2

/-! ### methods that change a name's own list -/
/-- a name's own list, and what is done with it -/
def ownLst (ρ : Env) (i n : Nat) (k : List D → Prop) : Prop := match slot ρ i with
  | some (m, .lst ds) => m = n + 1 ∧ k ds
  | _ => False
theorem ownLst.inv {ρ : Env} {i n : Nat} {k : List D → Prop} (h : ownLst ρ i n k) : ∃ ds, slot ρ i = some (n + 1, .lst ds) ∧ k ds := by
  unfold ownLst at h
  split at h
  · rename_i m ds e
    obtain ⟨rfl, h⟩ := h
    exact ⟨ds, e, h⟩
  · exact h.elim
def ownDK (ρ : Env) (i n : Nat) (k : List (Key × D) → Prop) : Prop := match slot ρ i with
  | some (m, .dK ds) => m = n + 1 ∧ k ds
  | _ => False
theorem ownDK.inv {ρ : Env} {i n : Nat} {k : List (Key × D) → Prop} (h : ownDK ρ i n k) : ∃ ds, slot ρ i = some (n + 1, .dK ds) ∧ k ds := by
  unfold ownDK at h
  split at h
  · rename_i m ds e
    obtain ⟨rfl, h⟩ := h
    exact ⟨ds, e, h⟩
  · exact h.elim
def ownDT (ρ : Env) (i n : Nat) (k : List (List Key × D) → Prop) : Prop := match slot ρ i with
  | some (m, .dT ds) => m = n + 1 ∧ k ds
  | _ => False
theorem ownDT.inv {ρ : Env} {i n : Nat} {k : List (List Key × D) → Prop} (h : ownDT ρ i n k) : ∃ ds, slot ρ i = some (n + 1, .dT ds) ∧ k ds := by
  unfold ownDT at h
  split at h
  · rename_i m ds e
    obtain ⟨rfl, h⟩ := h
    exact ⟨ds, e, h⟩
  · exact h.elim
def ownObj (C : Addr) (ρ : Env) (i n : Nat) (k : List (Str × D) → Prop) : Prop := match slot ρ i with
  | some (m, .obj C' ds) => m = n + 1 ∧ C' = C ∧ k ds
  | _ => False
theorem ownObj.inv {C : Addr} {ρ : Env} {i n : Nat} {k : List (Str × D) → Prop} (h : ownObj C ρ i n k) : ∃ ds, slot ρ i = some (n + 1, .obj C ds) ∧ k ds := by
  unfold ownObj at h
  split at h
  · rename_i m C' ds e
    obtain ⟨rfl, rfl, h⟩ := h
    exact ⟨ds, e, h⟩
  · exact h.elim
section
variable {K : PySem.W.Frag} {B fp : List Addr} {Pn : List V} {Z0 F0 F H : Hp} {σ : L2.St} {ρ : Env} {n i : Nat}
/-- the own list at a name -/
theorem StOk.lst {ds : List D} (S : StOk K B Pn Z0 F0 F H σ ρ fp) (e : slot ρ i = some (n + 1, .lst ds)) :
    ∃ a vs g, σ[i]? = some (some (.ref a)) ∧ H a = some (.lst vs) ∧ OwnL (Own K F H n) vs ds g ∧ a ∉ g ∧ g.Nodup ∧ (∀ b ∈ a :: g, b ∈ fp) ∧ ∀ vs' ds' g' fc, Apart B Z0 F fp fc → (∀ b ∈ g', b ∈ g ∨ b ∈ fc) → g'.Nodup → OwnL (Own K F H n) vs' ds' g' →
      ∃ fp', StOk K B Pn Z0 F0 F (upd H a (.lst vs')) σ (ρ.set i (some (n + 1, .lst ds'))) fp' := by
  obtain ⟨a, g, o, h1, h2, ⟨vs, rfl, h3⟩, h4, h5, h6, k⟩ := S.change e own_lst
  refine ⟨a, vs, g, h1, h2, h3, h4, h5, h6, fun vs' ds' g' fc ap hs nd ho => k (.lst vs') _ g' fc rfl ap hs nd ⟨a, vs', g', rfl, upd_same, rfl, ho.upd fun z => (hs a z).elim h4 fun z => (ap.1 a z).2.2.2 (h6 a List.mem_cons_self)⟩⟩
theorem StOk.dK {ds : List (Key × D)} (S : StOk K B Pn Z0 F0 F H σ ρ fp) (e : slot ρ i = some (n + 1, .dK ds)) :
    ∃ a kvs g, σ[i]? = some (some (.ref a)) ∧ H a = some (.dK kvs) ∧ kvs.map (·.1) = ds.map (·.1) ∧ OwnL (Own K F H n) (kvs.map (·.2)) (ds.map (·.2)) g ∧ a ∉ g ∧ g.Nodup ∧ (∀ b ∈ a :: g, b ∈ fp) ∧ ∀ (kvs' : List (Key × V)) (ds' : List (Key × D)) g' fc, Apart B Z0 F fp fc → (∀ b ∈ g', b ∈ g ∨ b ∈ fc) → g'.Nodup → kvs'.map (·.1) = ds'.map (·.1) → OwnL (Own K F H n) (kvs'.map (·.2)) (ds'.map (·.2)) g' →
      ∃ fp', StOk K B Pn Z0 F0 F (upd H a (.dK kvs')) σ (ρ.set i (some (n + 1, .dK ds'))) fp' := by
  obtain ⟨a, g, o, h1, h2, ⟨vs, rfl, hk, h3⟩, h4, h5, h6, k⟩ := S.change e own_dK
  refine ⟨a, vs, g, h1, h2, hk, h3, h4, h5, h6, fun vs' ds' g' fc ap hs nd hk' ho => k (.dK vs') _ g' fc rfl ap hs nd ⟨a, vs', g', rfl, upd_same, rfl, hk', ho.upd fun z => (hs a z).elim h4 fun z => (ap.1 a z).2.2.2 (h6 a List.mem_cons_self)⟩⟩
theorem StOk.dT {ds : List (List Key × D)} (S : StOk K B Pn Z0 F0 F H σ ρ fp) (e : slot ρ i = some (n + 1, .dT ds)) :
    ∃ a kvs g, σ[i]? = some (some (.ref a)) ∧ H a = some (.dT kvs) ∧ kvs.map (·.1) = ds.map (·.1) ∧ OwnL (Own K F H n) (kvs.map (·.2)) (ds.map (·.2)) g ∧ a ∉ g ∧ g.Nodup ∧ (∀ b ∈ a :: g, b ∈ fp) ∧ ∀ (kvs' : List (List Key × V)) (ds' : List (List Key × D)) g' fc, Apart B Z0 F fp fc → (∀ b ∈ g', b ∈ g ∨ b ∈ fc) → g'.Nodup → kvs'.map (·.1) = ds'.map (·.1) → OwnL (Own K F H n) (kvs'.map (·.2)) (ds'.map (·.2)) g' →
      ∃ fp', StOk K B Pn Z0 F0 F (upd H a (.dT kvs')) σ (ρ.set i (some (n + 1, .dT ds'))) fp' := by
  obtain ⟨a, g, o, h1, h2, ⟨vs, rfl, hk, h3⟩, h4, h5, h6, k⟩ := S.change e own_dT
  refine ⟨a, vs, g, h1, h2, hk, h3, h4, h5, h6, fun vs' ds' g' fc ap hs nd hk' ho => k (.dT vs') _ g' fc rfl ap hs nd ⟨a, vs', g', rfl, upd_same, rfl, hk', ho.upd fun z => (hs a z).elim h4 fun z => (ap.1 a z).2.2.2 (h6 a List.mem_cons_self)⟩⟩
theorem StOk.obj {C : Addr} {ds : List (Str × D)} (S : StOk K B Pn Z0 F0 F H σ ρ fp) (e : slot ρ i = some (n + 1, .obj C ds)) :
    ∃ a dx kvs g, σ[i]? = some (some (.ref a)) ∧ H a = some (.ins C dx kvs) ∧ kvs.map (·.1) = ds.map (·.1) ∧ OwnL (Own K F H n) (kvs.map (·.2)) (ds.map (·.2)) g ∧ a ∉ g ∧ g.Nodup ∧ (∀ b ∈ a :: g, b ∈ fp) ∧ ∀ (kvs' : List (Str × V)) (ds' : List (Str × D)) g' fc, Apart B Z0 F fp fc → (∀ b ∈ g', b ∈ g ∨ b ∈ fc) → g'.Nodup → kvs'.map (·.1) = ds'.map (·.1) → OwnL (Own K F H n) (kvs'.map (·.2)) (ds'.map (·.2)) g' →
      ∃ fp', StOk K B Pn Z0 F0 F (upd H a (.ins C dx kvs')) σ (ρ.set i (some (n + 1, .obj C ds'))) fp' := by
  obtain ⟨a, g, o, h1, h2, ⟨dx, vs, rfl, hk, h3⟩, h4, h5, h6, k⟩ := S.change e own_obj
  refine ⟨a, dx, vs, g, h1, h2, hk, h3, h4, h5, h6, fun vs' ds' g' fc ap hs nd hk' ho => k (.ins C dx vs') _ g' fc rfl ap hs nd ⟨a, dx, vs', g', rfl, upd_same, rfl, hk', ho.upd fun z => (hs a z).elim h4 fun z => (ap.1 a z).2.2.2 (h6 a List.mem_cons_self)⟩⟩
theorem Apart.nil : Apart B Z0 F fp [] := ⟨fun a h => (by cases h), List.nodup_nil⟩
theorem nd_of {g f : List Addr} (h1 : g.Nodup) (h2 : f.Nodup) (h3 : ∀ a ∈ f, a ∉ g) : (g ++ f).Nodup := List.nodup_append.mpr ⟨h1, h2, fun a ha b hb e => by subst e; exact h3 a hb ha⟩
end
/-! the same by a list of data -/
def putD {κ : Type} [DecidableEq κ] (es : List (κ × D)) (k : κ) (d : D) : List (κ × D) :=
  if (es.any fun e => decide (e.1 = k)) = true then es.map (fun e => if e.1 = k then (e.1, d) else e) else es ++ [(k, d)]
def getD' {κ : Type} [DecidableEq κ] (es : List (κ × D)) (k : κ) : Option D := (es.find? fun e => decide (e.1 = k)).map (·.2)
section
variable {κ : Type} [DecidableEq κ] {kvs : List (κ × V)} {es : List (κ × D)}
theorem any_keys : ∀ {kvs : List (κ × V)} {es : List (κ × D)}, kvs.map (·.1) = es.map (·.1) → ∀ k : κ, (kvs.any fun e => decide (e.1 = k)) = es.any fun e => decide (e.1 = k)
  | [], [], _, _ => rfl
  | p :: r, q :: s, h, k => by
    rw [List.map_cons, List.map_cons] at h
    injection h with h1 h2
    rw [List.any_cons, List.any_cons, any_keys h2 k, h1]
  | [], _ :: _, h, _ => by cases h
  | _ :: _, [], h, _ => by cases h
theorem val_get {k : κ} : ∀ {kvs : List (κ × V)} {es : List (κ × D)}, kvs.map (·.1) = es.map (·.1) →
    (valV kvs k = none ∧ getD' es k = none) ∨ ∃ (i : Nat) (v : V) (d : D), valV kvs k = some v ∧ getD' es k = some d ∧ (kvs.map (·.2))[i]? = some v ∧ (es.map (·.2))[i]? = some d
  | [], [], _ => .inl ⟨rfl, rfl⟩
  | p :: r, q :: s, h => by
    rw [List.map_cons, List.map_cons] at h
    injection h with h1 h2
    by_cases e : p.1 = k
    · right
      refine ⟨0, p.2, q.2, valV_pos e, ?_, rfl, rfl⟩
      have e' : q.1 = k := h1 ▸ e
      simp [getD', List.find?_cons, e']
    · have e' : ¬ q.1 = k := h1 ▸ e
      have g : getD' (q :: s) k = getD' s k := by simp [getD', List.find?_cons, e']
      rw [valV_neg e, g]
      rcases val_get (k := k) h2 with ⟨a, b⟩ | ⟨i, v, d, a, b, c, c'⟩
      · exact .inl ⟨a, b⟩
      · exact .inr ⟨i + 1, v, d, a, b, by simpa using c, by simpa using c'⟩
  | [], _ :: _, h => by cases h
  | _ :: _, [], h => by cases h
theorem put_keys {v : V} {d : D} {k : κ} (h : kvs.map (·.1) = es.map (·.1)) : (putK kvs k v).map (·.1) = (putD es k d).map (·.1) := by
  unfold putK putD
  rw [any_keys h k]
  split
  · rw [List.map_map, List.map_map]
    have e1 : (fun x : κ × V => x.1) ∘ (fun kv : κ × V => if kv.1 = k then (kv.1, v) else kv) = fun x => x.1 := by
      funext x; show (if x.1 = k then (x.1, v) else x).1 = x.1; split <;> rfl
    have e2 : (fun x : κ × D => x.1) ∘ (fun kv : κ × D => if kv.1 = k then (kv.1, d) else kv) = fun x => x.1 := by
      funext x; show (if x.1 = k then (x.1, d) else x).1 = x.1; split <;> rfl
    rw [e1, e2]; exact h
  · rw [List.map_append, List.map_append, h]; rfl
theorem put_rl {K : PySem.W.Frag} {F : Hp} {v : V} {d : D} {k : κ} (q : R K F v d) (hk : kvs.map (·.1) = es.map (·.1)) (h : RL K F (kvs.map (·.2)) (es.map (·.2))) : RL K F ((putK kvs k v).map (·.2)) ((putD es k d).map (·.2)) := by
  unfold putK putD
  rw [any_keys hk k]
  by_cases c : (es.any fun e => decide (e.1 = k)) = true
  · rw [if_pos c, if_pos c]
    clear c
    induction kvs generalizing es with
    | nil =>
      cases es with
      | nil => exact .nil
      | cons q s => cases hk
    | cons p r ih =>
      cases es with
      | nil => cases hk
      | cons p' s =>
        rw [List.map_cons, List.map_cons] at hk
        injection hk with h1 h2
        rw [List.map_cons, List.map_cons] at h
        simp only [List.map_cons]
        cases h with
        | cons h t =>
          refine .cons ?_ (ih h2 t)
          rw [h1]
          by_cases e : p'.1 = k
          · rw [if_pos e, if_pos e]; exact q
          · rw [if_neg e, if_neg e]; exact h
  · rw [if_neg c, if_neg c, List.map_append, List.map_append]
    exact h.append (.cons q .nil)
end

/-! ### the statements and methods -/
structure NameOk (X : Cx) (i : Nat) (x : Str) : Prop where
  hN : X.N[i]? = some x
  hv : Vis X.env.scope x
  hd : (x == ("__debug__" : Str)) = false
  hcd : (x == ("__classdict__" : Str)) = false
structure BmOk (X : Cx) (o : Expr) (name : Str) (apos : Pos) (e : Expr) (es : List Expr) (cpos : Pos) : Prop where
  hbase : attributeBase o name X.env (eval o X.env) = eval o X.env
  hfew : ((backTo cpos (starEach (e :: es) X.env)).all (fun x => !x.1) && (backToKw cpos (keywordEach [] X.env)).all (fun x => x.1.isSome)
      && decide ((e :: es).length + ([] : List Keyword).length + (if ([] : List Keyword).isEmpty then 0 else 1) < 30)) = true
  hline : (apos.endLine == cpos.line) = true
  hs : starEach (e :: es) X.env = (false, eval e X.env) :: starEach es X.env
  hplain : (backTo cpos (starEach es X.env)).any (·.1) = false
structure Bm0Ok (X : Cx) (o : Expr) (name : Str) (apos cpos : Pos) : Prop where
  hbase : attributeBase o name X.env (eval o X.env) = eval o X.env
  hline : (apos.endLine == cpos.line) = true
section
variable {X : Cx} {e e2 : Expr} {pin n i : Nat} {m mr : Mode} {f f2 : FM} {fe : FE} {x : Str} {pos p apos cpos : Pos} {es : List Expr}
/-- x.append(e) -/
theorem dm_append (i n : Nat) (he : DM X B e pin (.own n) f) (hN : NameOk X i x := by exact ⟨rfl, by first | exact Or.inl rfl | exact Or.inr (Or.inl rfl) | exact Or.inr (Or.inr rfl), by decide, by decide⟩) (hb : BmOk X (.Name x p) "append" apos e [] cpos := by exact ⟨rfl, rfl, rfl, rfl, rfl⟩) :
    DM X B (.Call (.Attribute (.Name x p) "append" apos) [e] [] cpos) pin m (fun ρ R => ownLst ρ i n (fun _ => True) ∧ f ρ fun d ρ' => ownLst ρ' i n fun ds => ds.length < sizeLine ∧ R .non (ρ'.set i (some (n + 1, .lst (ds ++ [d]))))) :=
  PE.imp (pe_bm PySem.F.plainAttrs_list PySem.F.slot_list_append PySem.F.type_list_append mt_append (pe_var hN.1 hN.2 hN.3 hN.4) (pa_cons he pa_nil hb.4) hb.1 hb.2 hb.3 hb.4 hb.5) fun σ H Q ⟨Pn, Z0, F0, F, ρ, fp, R, hpl, S, ⟨h0, hf⟩, k⟩ => by
    obtain ⟨ds0, e0, _⟩ := h0.inv
    obtain ⟨a, vs, g, h1, h2, h3, h4, h5, h6, kk⟩ := S.lst e0
    refine ⟨_, h1, .inl ⟨rfl, _, SqL.of h2⟩, Pn, Z0, F0, F, ρ, fp, _, hpl, S, hf, fun F' H' ρ' fp' v d f' S' hv ap hR => ?_⟩
    obtain ⟨ds, e1, hz, hR⟩ := hR.inv
    obtain ⟨a', vs', g', h1', h2', h3', h4', h5', h6', kk'⟩ := S'.lst e1
    rw [h1] at h1'
    cases h1'
    obtain ⟨fp2, S2⟩ := kk' (vs' ++ [v]) (ds ++ [d]) (g' ++ f') f' ap (fun b hb => List.mem_append.mp hb) (nd_of h5' ap.2 fun b hb z => (ap.1 b hb).2.2.2 (h6' b (List.mem_cons_of_mem _ z))) (h3'.append (OwnL.one hv))
    exact ⟨a, vs', v, rfl, rfl, h2', by rw [h3'.len]; exact hz, k F' _ _ fp2 .non .non [] S2 (Val.atom rfl fun _ => .non) .nil hR⟩
/-- x[j] = e -/
theorem ds_setL (i n : Nat) (he : DM X B e pin (.own n) f) (hj : DE X B e2 (.own 0) fe) (hN : NameOk X i x := by exact ⟨rfl, by first | exact Or.inl rfl | exact Or.inr (Or.inl rfl) | exact Or.inr (Or.inr rfl), by decide, by decide⟩)
    (ha : ∀ v, assign (.Subscript (.Name x p) e2 apos) X.env v = (do
      let ov ← holding [v] (eval (.Name x p) X.env)
      let iv ← holding [v, ov] (eval e2 X.env)
      standAt apos
      holding [v, ov, iv] (setItem ov iv v)
      release [v, ov, iv] []) := by intro _; rfl)
    (hs : swapsWithSole [.Subscript (.Name x p) e2 apos] e pos.line X.env = pure false := by rfl) (hw : swappedStores [.Subscript (.Name x p) e2 apos] e X.env = pure none := by rfl)
    (h1 : (assignEach [.Subscript (.Name x p) e2 apos] X.env).map (·.2) = [assign (.Subscript (.Name x p) e2 apos) X.env] := by rfl) :
    DS X B (.Assign [.Subscript (.Name x p) e2 apos] e pos) pin mr (fun E ρ => f ρ fun d ρ' => ownLst ρ' i n (fun _ => True) ∧ fe ρ' fun j => match j with
      | .int j => ownLst ρ' i n fun ds => ∃ k, ixN ds.length j = some k ∧ E.nx (ρ'.set i (some (n + 1, .lst (ds.set k d))))
      | _ => False) :=
  PS.imp (ps_asg he (pg_sub (pe_var hN.1 hN.2 hN.3 hN.4) hj set_list ha) hs hw h1) fun Dn σ H ⟨Pn, Z0, F0, F, ρ, fp, E, hpl, S, hf, L⟩ => by
    refine ⟨Pn, Z0, F0, F, ρ, fp, _, hpl, S, hf, fun F' H' ρ' fp' v d f' S' hv ap ⟨h0, hR⟩ => ?_⟩
    obtain ⟨ds0, e0, _⟩ := h0.inv
    obtain ⟨a, vs, g, h1, h2, h3, h4, h5, h6, kk⟩ := S'.lst e0
    refine ⟨_, h1, F', ρ', fp', _, S'.base, hR, fun F2 H2 w j fj s2 hw oj nj hj => ?_⟩
    have S2 := S'.step s2 fun a h => (by cases h)
    cases j <;> try exact hj.elim
    rename_i j
    obtain ⟨rfl, rfl⟩ := hw.int
    obtain ⟨ds, e1, kx, hx, hR⟩ := ownLst.inv hj
    obtain ⟨a', vs', g', h1', h2', h3', h4', h5', h6', kk'⟩ := S2.lst e1
    rw [h1] at h1'
    cases h1'
    have ap2 : Apart B Z0 F2 fp' f' := ⟨fun b hb => by
      obtain ⟨q1, q2, q3, q4⟩ := ap.1 b hb
      obtain ⟨o, eo, mu⟩ := hv.there b hb
      exact ⟨s2.out eo mu q2 q1 (fun z => (by cases z)), q2, q3, q4⟩, ap.2⟩
    have hv2 : Own X.K F2 H2 n v d f' := hv.step s2 fun b hb => (ap.1 b hb).2.1
    obtain ⟨g2, o2, sub, nd⟩ := OwnL.set hv2 kx h3' (nd_of h5' ap.2 fun b hb z => (ap.1 b hb).2.2.2 (h6' b (List.mem_cons_of_mem _ z)))
    obtain ⟨fp2, S3⟩ := kk' (vs'.set kx v) (ds.set kx d) g2 f' ap2 sub nd o2
    exact ⟨a, vs', j, kx, rfl, rfl, h2', by rw [h3'.len]; exact hx, L.nx F2 _ _ _ fp2 S3 hR⟩
/-- the key that a value is -/
def keyOf : D → Option Key
  | .int i => some (.inl i)
  | .str s => some (.inr s)
  | _ => none
def keysOf : List D → Option (List Key)
  | [] => some []
  | d :: ds => match keyOf d, keysOf ds with
    | some k, some ks => some (k :: ks)
    | _, _ => none
def keyT : D → Option (List Key)
  | .tup ds => keysOf ds
  | _ => none
theorem keyOf_R {K : PySem.W.Frag} {G : Hp} {d : D} {v : V} {k : Key} (h : keyOf d = some k) (r : R K G v d) : v = kV k := by
  cases d <;> try (cases h; done)
  · cases h; cases r; rfl
  · cases h; cases r; rfl
theorem keysOf_R {K : PySem.W.Frag} {G : Hp} : ∀ {ds : List D} {vs : List V} {ks : List Key}, keysOf ds = some ks → RL K G vs ds → vs = ks.map kV
  | [], _, ks, h, .nil => by cases h; rfl
  | d :: ds, _, ks, h, .cons r t => by
    unfold keysOf at h
    split at h
    · rename_i k' ks' h1 h2
      cases h
      rw [List.map_cons, keyOf_R h1 r, keysOf_R h2 t]
    · cases h
/-- d[k] = e, the keys ints or texts, what is kept may be read -/
theorem ds_putK (i : Nat) (hu : X.A.units + 1 < cLine) (he : DM X B e pin (.own 0) f) (hj : DE X B e2 (.own 0) fe) (hN : NameOk X i x := by exact ⟨rfl, by first | exact Or.inl rfl | exact Or.inr (Or.inl rfl) | exact Or.inr (Or.inr rfl), by decide, by decide⟩) (hs : swapsWith e (some (.Subscript (.Name x p) e2 apos)) pos.line X.env = pure false := by rfl) :
    DS X B (.Assign [.Subscript (.Name x p) e2 apos] e pos) pin mr (fun E ρ => f ρ fun d ρ' => ownDK ρ' i 0 (fun _ => True) ∧ fe ρ' fun j => ∃ k, keyOf j = some k ∧ ownDK ρ' i 0 fun ds => ds.length < sizeLine ∧ E.nx (ρ'.set i (some (1, .dK (putD ds k d))))) :=
  PS.imp (ps_dput hu (pe_var hN.1 hN.2 hN.3 hN.4) hj he hs) fun Dn σ H ⟨Pn, Z0, F0, F, ρ, fp, E, hpl, S, hf, L⟩ => by
    refine ⟨Pn, Z0, F0, F, ρ, fp, _, hpl, S, hf, fun F' H' ρ' fp' v d f' S' hv ap ⟨h0, hR⟩ => ?_⟩
    obtain ⟨ds0, e0, _⟩ := h0.inv
    obtain ⟨a, vs, g, h1, h2, hk, h3, h4, h5, h6, kk⟩ := S'.dK e0
    refine ⟨_, h1, F', ρ', fp', _, S'.base, hR, fun F2 H2 w j fj s2 hw oj nj hj => ?_⟩
    have S2 := S'.step s2 fun a h => (by cases h)
    obtain ⟨k, ek, hj⟩ := hj
    obtain ⟨ds, e1, hz, hR⟩ := hj.inv
    obtain ⟨a', vs', g', h1', h2', hk', h3', h4', h5', h6', kk'⟩ := S2.dK e1
    rw [h1] at h1'
    cases h1'
    obtain ⟨hv0, rfl⟩ := (show Own X.K F' H' 0 v d f' from hv)
    obtain ⟨fp2, S3⟩ := kk' (putK vs' k v) (putD ds k d) [] [] .nil (fun b h => (by cases h)) List.nodup_nil (put_keys hk') (OwnL.zero (put_rl (R.mono s2.fs hv0) hk' h3'.toRL0))
    have hlen : vs'.length = ds.length := by have := congrArg List.length hk'; simpa using this
    have ew : w = kV k := keyOf_R ek (hw.1)
    exact ⟨a, _, rfl, .inl ⟨vs', k, h2', ew, by rw [hlen]; exact hz, rfl⟩, L.nx F2 _ _ _ fp2 S3 hR⟩
/-- .. the keys tuples -/
theorem ds_putT (i : Nat) (hu : X.A.units + 1 < cLine) (he : DM X B e pin (.own 0) f) (hj : DE X B e2 (.own 0) fe) (hN : NameOk X i x := by exact ⟨rfl, by first | exact Or.inl rfl | exact Or.inr (Or.inl rfl) | exact Or.inr (Or.inr rfl), by decide, by decide⟩) (hs : swapsWith e (some (.Subscript (.Name x p) e2 apos)) pos.line X.env = pure false := by rfl) :
    DS X B (.Assign [.Subscript (.Name x p) e2 apos] e pos) pin mr (fun E ρ => f ρ fun d ρ' => ownDT ρ' i 0 (fun _ => True) ∧ fe ρ' fun j => ∃ k, keyT j = some k ∧ ownDT ρ' i 0 fun ds => ds.length < sizeLine ∧ E.nx (ρ'.set i (some (1, .dT (putD ds k d))))) :=
  PS.imp (ps_dput hu (pe_var hN.1 hN.2 hN.3 hN.4) hj he hs) fun Dn σ H ⟨Pn, Z0, F0, F, ρ, fp, E, hpl, S, hf, L⟩ => by
    refine ⟨Pn, Z0, F0, F, ρ, fp, _, hpl, S, hf, fun F' H' ρ' fp' v d f' S' hv ap ⟨h0, hR⟩ => ?_⟩
    obtain ⟨ds0, e0, _⟩ := h0.inv
    obtain ⟨a, vs, g, h1, h2, hk, h3, h4, h5, h6, kk⟩ := S'.dT e0
    refine ⟨_, h1, F', ρ', fp', _, S'.base, hR, fun F2 H2 w j fj s2 hw oj nj hj => ?_⟩
    have S2 := S'.step s2 fun a h => (by cases h)
    obtain ⟨k, ek, hj⟩ := hj
    obtain ⟨ds, e1, hz, hR⟩ := hj.inv
    obtain ⟨a', vs', g', h1', h2', hk', h3', h4', h5', h6', kk'⟩ := S2.dT e1
    rw [h1] at h1'
    cases h1'
    obtain ⟨hv0, rfl⟩ := (show Own X.K F' H' 0 v d f' from hv)
    obtain ⟨fp2, S3⟩ := kk' (putK vs' k v) (putD ds k d) [] [] .nil (fun b h => (by cases h)) List.nodup_nil (put_keys hk') (OwnL.zero (put_rl (R.mono s2.fs hv0) hk' h3'.toRL0))
    have hlen : vs'.length = ds.length := by have := congrArg List.length hk'; simpa using this
    cases j <;> try (cases ek; done)
    rename_i js
    obtain ⟨ta, ws, rfl, ht, hrl⟩ := (hw.1 : R X.K F2 w (.tup js)).tupI
    have ew : ws = k.map kV := keysOf_R ek hrl
    subst ew
    exact ⟨a, _, rfl, .inr ⟨vs', k, ta, h2', rfl, tup_of S2.wf (S2.wf.sub _ _ ht), by rw [hlen]; exact hz, rfl⟩, L.nx F2 _ _ _ fp2 S3 hR⟩
end
end GK

namespace GK
open PySem PySem.Spec PyProof.Rows L2

/-! ### a method that changes its own object; __init__ -/
/-- wp of the object, of the arguments and of what is wanted of the value and of the object behind it -/
abbrev FSpecM := D → List D → (D → D → Prop) → Prop
/-- what stands, but for what the object owns, is kept -/
structure StepM (B f : List Addr) (F H F' H' : Hp) : Prop where
  same : ∀ a o, a ∉ B → a ∉ f → H a = some o → H' a = some o
  fs : Same F F'
  fresh : ∀ a u, F' a = some u → F a = some u ∨ H a = none ∨ isTup u ∨ a ∈ f
  wf : WF B F' H'
def spM (K : PySem.W.Frag) (n : Nat) (m : Mode) (W : FSpecM) : Sp := fun vs H Q _ => ∃ B F v ws s ds f R, vs = v :: ws ∧ WF B F H ∧ Own K F H n v s f ∧ Fp B F f ∧ RL K F ws ds ∧ W s ds R ∧
  ∀ F' H' r d fr s' f', StepM B f F H F' H' → Own K F' H' n v s' f' → Val K m B F' H' r d fr → (∀ a ∈ f' ++ fr, (a ∈ f ∨ H a = none) ∧ F' a = none ∧ a ∉ B) → (f' ++ fr).Nodup → R d s' → Q r H'
abbrev DEnds.meth (n : Nat) (R : D → D → Prop) : DEnds := { nx := fun ρ => ∃ s, slot ρ 0 = some (n, s) ∧ R .non s, rt := fun d ρ => ∃ s, slot ρ 0 = some (n, s) ∧ R d s }
section
variable {P : Program} {w : World} {K : PySem.W.Frag} {mg : Str → Option Value} {base : Heap}
theorem StOk.stepM {B : List Addr} {Pn : List V} {F H : Hp} {σ : L2.St} {ρ : Env} {fp : List Addr} {F1 H1 : Hp} {f : List Addr} (T : StOk K B Pn (prot B f H1) F1 F H σ ρ fp) : StepM B f F1 H1 F H :=
  ⟨fun a o hb hf e => T.z a o (by rw [prot_out hf hb]; exact e), T.f, fun a u e => by
    rcases T.fr a u e with z | z | z
    · exact .inl z
    · by_cases hb : a ∈ B
      · have := T.wf.outB hb
        rw [this] at e; cases e
      · by_cases hf : a ∈ f
        · exact .inr (.inr (.inr hf))
        · rw [prot_out hf hb] at z; exact .inr (.inl z)
    · exact .inr (.inr (.inl z)), T.wf⟩
theorem Fun_okM {x qual : Str} {st : Stmt} {fa : Addr} {fd : FuncData} {N ps : List Str} {k n : Nat} {m : Mode} {W : FSpecM} (F : Fun K x qual st fa fd) (S : FnScope N ps (defScope st)) (len : ∀ s ds R, W s ds R → ds.length + 1 = ps.length)
    (hbody : ∀ (B : List Addr) (cdv : Value) (A : Around) (outer : List PySem.Env) (s : Shared) (H : Hp) (E : XK), Room k (A.deeper (envOfC qual (defScope st) s.heap.objs.size fa cdv)) →
      ∃ g, DSs (cxOf CX0 P w K mg base N qual (defScope st) fa cdv A outer s H E).nox B (defBody st) 1 m g ∧ ∀ s ds R, W s ds R → g (DEnds.meth n R) (some (n, s) :: (envOf ds ++ List.replicate (N.length - (ds.length + 1)) none))) : FnOk P w K mg base CX0 (k + 1) fa fd ps (spM K n m W) := by
  refine F.ok S (fun vs H Q E ⟨B, F, v, ws, s, ds, f, R, e, w, o, a, r, hW, k⟩ => by rw [e, List.length_cons, r.length]; exact len s ds R hW) fun cdv A outer sh H vs Q E hr ⟨B, F, v, ws, s, ds, f, R, ev, w, ho, ⟨ha, hn⟩, r, hW, k⟩ => ?_
  obtain ⟨g, hg, hq⟩ := hbody B cdv A outer sh H E hr
  subst ev
  refine ⟨_, hg, [v], prot B f H, F, F, _, f, DEnds.meth n R, rfl, ⟨w, ?_, hn, fun a h => ⟨(ha a h).1, (ha a h).2, prot_in (.inl h)⟩, prot_same, fun a h => prot_in (.inr h), fun _ _ h => h, fun a u h => .inl h, fun i u e => ?_⟩, hq s ds R hW, ?_⟩
  · rw [start_eq, List.length_cons, r.length]
    exact ⟨f, [], (List.append_nil f).symm, ho, ownE_start _ r⟩
  · cases i with
    | zero =>
      have e' : v = u := Option.some.inj e
      subst e'; rfl
    | succ i => simp at e
  have fin : ∀ {F' H' : Hp} {σ' : L2.St} {ρ' : Env} {fp' : List Addr} {s' : D} {r : V} {d : D} {fr : List Addr}, StOk K B [v] (prot B f H) F F' H' σ' ρ' fp' → slot ρ' 0 = some (n, s') → Val K m B F' H' r d fr → Apart B (prot B f H) F' fp' fr → R d s' → Q r H' := fun {F' H' σ' ρ' fp' s' r d fr} T e hv ap hR => by
    obtain ⟨v', f', fp2, e1, e2, T2, ap2, sub⟩ := T.take e
    have e3 := T.pn 0 v rfl
    rw [e3] at e1
    cases e1
    refine k F' H' r d fr s' f' T.stepM e2 hv (fun a ha => ?_) ?_ hR
    · have key : F' a = none ∧ a ∉ B ∧ prot B f H a = none := by
        rcases List.mem_append.mp ha with z | z
        · obtain ⟨h1, h2, h3, _⟩ := ap2.1 a z; exact ⟨h1, h2, h3⟩
        · obtain ⟨h1, h2, h3, _⟩ := ap.1 a z; exact ⟨h1, h2, h3⟩
      refine ⟨?_, key.1, key.2.1⟩
      by_cases hf : a ∈ f
      · exact .inl hf
      · right
        have := key.2.2
        rw [prot_out hf key.2.1] at this; exact this
    · refine List.nodup_append.mpr ⟨ap2.2, ap.2, fun a ha b hb e => ?_⟩
      subst e
      exact (ap.1 a hb).2.2.2 (sub a (List.mem_append_right _ ha))
  exact ⟨fun F' H' σ' ρ' fp' T ⟨s', e, h⟩ => fin T e (Val.atom (d := .non) (v := .non) rfl fun _ => .non) .nil h, fun F' H' σ' ρ' fp' v d f T hv ap ⟨s', e, h⟩ => fin T e hv ap h,
    fun _ _ _ _ _ _ h => h.elim, fun _ _ _ _ _ _ h => h.elim⟩
end
/-- self.f = e, in its own method -/
def putF' (f : Str) (d : D) : List (Str × D) → List (Str × D)
  | [] => [(f, d)]
  | (g, x) :: r => if g = f then (g, d) :: r else (g, x) :: putF' f d r
theorem putF_keys {f : Str} {v : V} {d : D} : ∀ {fs : List (Str × V)} {es : List (Str × D)}, fs.map (·.1) = es.map (·.1) → (putF f v fs).map (·.1) = (putF' f d es).map (·.1)
  | [], [], _ => rfl
  | (g, x) :: r, (g', y) :: s, h => by
    rw [List.map_cons, List.map_cons] at h
    injection h with h1 h2
    have h1 : g = g' := h1
    subst h1
    unfold putF putF'
    by_cases e : g = f
    · rw [if_pos e, if_pos e, List.map_cons, List.map_cons, h2]
    · rw [if_neg e, if_neg e, List.map_cons, List.map_cons, putF_keys h2]
  | [], _ :: _, h => by cases h
  | _ :: _, [], h => by cases h
theorem putF_own {P : V → D → List Addr → Prop} {f : Str} {v : V} {d : D} {q : List Addr} (h : P v d q) : ∀ {fs : List (Str × V)} {es : List (Str × D)} {g : List Addr}, fs.map (·.1) = es.map (·.1) → OwnL P (fs.map (·.2)) (es.map (·.2)) g → (g ++ q).Nodup →
    ∃ g', OwnL P ((putF f v fs).map (·.2)) ((putF' f d es).map (·.2)) g' ∧ (∀ a ∈ g', a ∈ g ∨ a ∈ q) ∧ g'.Nodup
  | [], [], g, _, t, nd => by
    have e : g = [] := t
    subst e
    exact ⟨q, OwnL.one h, fun a ha => .inr ha, (List.nodup_append.mp nd).2.1⟩
  | (k, x) :: r, (k', y) :: s, g, hk, ⟨f1, f2, e, h1, t⟩, nd => by
    rw [List.map_cons, List.map_cons] at hk
    injection hk with k1 k2
    have k1 : k = k' := k1
    subst k1
    subst e
    rw [List.append_assoc] at nd
    obtain ⟨n1, n2, n3⟩ := List.nodup_append.mp nd
    unfold putF putF'
    by_cases e : k = f
    · rw [if_pos e, if_pos e]
      refine ⟨q ++ f2, ⟨q, f2, rfl, h, t⟩, fun a ha => ?_, nd_comm n2⟩
      rcases List.mem_append.mp ha with z | z
      · exact .inr z
      · exact .inl (List.mem_append_right _ z)
    · rw [if_neg e, if_neg e]
      obtain ⟨g', o, sub, nd'⟩ := putF_own h k2 t n2
      refine ⟨f1 ++ g', ⟨f1, g', rfl, h1, o⟩, fun a ha => ?_, List.nodup_append.mpr ⟨n1, nd', fun a ha b hb e => ?_⟩⟩
      · rcases List.mem_append.mp ha with z | z
        · exact .inl (List.mem_append_left _ z)
        · rcases sub a z with z | z
          · exact .inl (List.mem_append_right _ z)
          · exact .inr z
      · subst e
        rcases sub a hb with z | z
        · exact n3 a ha a (List.mem_append_left _ z) rfl
        · exact n3 a ha a (List.mem_append_right _ z) rfl
  | [], _ :: _, _, h, _, _ => by cases h
  | _ :: _, [], _, h, _, _ => by cases h
section
variable {X : Cx} {e : Expr} {pin : Nat} {mr : Mode} {f : FM} {x fld : Str} {pos p pos' : Pos} {C : Addr}
theorem ds_fld (i n : Nat) (c : Cls X.K C) (nf : NoAttr X.K C fld) (he : DM X B e pin (.own n) f) (hN : NameOk X i x := by exact ⟨rfl, by first | exact Or.inl rfl | exact Or.inr (Or.inl rfl) | exact Or.inr (Or.inr rfl), by decide, by decide⟩)
    (hs : swapsWith e (some (.Attribute (.Name x p) fld pos')) pos.line X.env = pure false := by rfl) :
    DS X B (.Assign [.Attribute (.Name x p) fld pos'] e pos) pin mr (fun E ρ => f ρ fun d ρ' => ownObj C ρ' i n fun es => es.length < 1000 ∧ E.nx (ρ'.set i (some (n + 1, .obj C (putF' fld d es))))) :=
  PS.imp (ps_fld (pe_var hN.1 hN.2 hN.3 hN.4) he hs) fun Dn σ H ⟨Pn, Z0, F0, F, ρ, fp, E, hpl, S, hf, L⟩ => by
    refine ⟨Pn, Z0, F0, F, ρ, fp, _, hpl, S, hf, fun F' H' ρ' fp' v d f' S' hv ap hR => ?_⟩
    obtain ⟨es, e1, hz, hR⟩ := hR.inv
    obtain ⟨a, dx, fs, g, h1, h2, hk, h3, h4, h5, h6, kk⟩ := S'.obj e1
    obtain ⟨g', o, sub, nd⟩ := putF_own (f := fld) (show Own X.K F' H' n v d f' from hv) hk h3 (nd_of h5 ap.2 fun b hb z => (ap.1 b hb).2.2.2 (h6 b (List.mem_cons_of_mem _ z)))
    obtain ⟨fp2, S2⟩ := kk (putF fld v fs) (putF' fld d es) g' f' ap sub nd (putF_keys hk) o
    have hlen : fs.length = es.length := by have := congrArg List.length hk; simpa using this
    exact ⟨_, h1, a, C, dx, fs, rfl, h2, c, nf, by rw [hlen]; exact hz, L.nx F' _ _ _ fp2 S2 hR⟩
end
/-! ### C(..) -/
section
variable {X : Cx} {k : Nat} {fa C : Addr} {fd : FuncData} {ps : List Str} {ds : List Value} {dvs : List V} {x : Str} {p pos : Pos} {e : Expr} {es : List Expr} {ms : List Mode} {fs : FA} {W : FSpecM} {dd : List D} {n : Nat} {m : Mode}
theorem make_ok {K : PySem.W.Frag} {B A : List Addr} {F H : Hp} {vs : List V} {xs : List D} {R : D → Prop} {Q : VK} {x dx : Addr} (w : WF B F H) (r : RL K F vs xs) (hx : H x = none) (hdx : H dx = none) (ne : dx ≠ x)
    (h : W (.obj C []) xs fun d s => d = .non ∧ R s) (k : Post K B A F H (.own (n + 1)) R Q) : spM K (n + 1) m W (.ref x :: vs) (upd (upd H dx (.own x)) x (.ins C dx [])) (fun v H2 => v = .non ∧ Q (.ref x) H2) fun _ _ _ => False := by
  have w1 := w.laid (o := .own x) hdx rfl
  have hx1 : upd H dx (.own x) x = none := by rw [upd_ne (Ne.symm ne)]; exact hx
  have w2 := w1.laid (o := .ins C dx []) hx1 rfl
  have old : ∀ a o, H a = some o → upd (upd H dx (.own x)) x (.ins C dx []) a = some o := fun a o e => same_upd hx1 a o (same_upd hdx a o e)
  refine ⟨B, F, .ref x, vs, .obj C [], xs, [x], _, rfl, w2, ⟨x, dx, [], [], rfl, upd_same, rfl, rfl, rfl⟩, ⟨fun a ha => ?_, by simp⟩, r, h, fun F' H' r d fr s' f' s ho hv hf hn ⟨hd, hR⟩ => ?_⟩
  · have e : a = x := by simpa using ha
    subst e
    exact ⟨F_none w hx, w.notB hx⟩
  · subst hd
    obtain ⟨rfl, rfl⟩ := hv.non
    refine ⟨rfl, k F' H' (.ref x) s' f' ⟨fun a o hb e => s.same a o hb (fun hm => ?_) (old a o e), s.fs, fun a u e => ?_, s.wf⟩ ho (fun a ha => ?_) (by simpa using hn) hR⟩
    · have e' : a = x := by simpa using hm
      subst e'
      rw [hx] at e; cases e
    · rcases s.fresh a u e with z | z | z | z
      · exact .inl z
      · right; left
        cases q : H a with
        | none => rfl
        | some o => rw [old a o q] at z; cases z
      · exact .inr (.inr (.inl z))
      · have e' : a = x := by simpa using z
        subst e'
        exact .inr (.inl hx)
    · obtain ⟨h1, h2⟩ := hf a (by simpa using ha)
      refine ⟨?_, h2⟩
      rcases h1 with z | z
      · have e' : a = x := by simpa using z
        subst e'
        exact .inr hx
      · right
        cases q : H a with
        | none => rfl
        | some o => rw [old a o q] at z; cases z
theorem de_make (M : Mk X.K C fa) (F : FnOk X.prog X.w X.K X.mg X.base CX0 k fa fd ps (spM X.K (n + 1) m W)) (hr : Room (k + 1) X.A) (hg : Gl X x) (hm : X.mg x = some (.ref C)) (hb : Binds X.K fd ps ds) (hd : Vals dvs ds) (hdd : Dflt X.K dvs dd)
    (ha : DA X B (e :: es) ms fs) (hms : ∀ m ∈ ms, m = .own 0 := by simp) (hdb : (x == ("__debug__" : Str)) = false := by decide) (he : starEach (e :: es) X.env = (false, eval e X.env) :: starEach es X.env := by rfl) (hpl : (backTo pos (starEach es X.env)).any (·.1) = false := by rfl) :
    DE X B (.Call (.Name x p) (e :: es) [] pos) (.own (n + 1)) (fArgs (fun xs R => W (.obj C []) (xs ++ dd) fun d s => d = .non ∧ R s) fs) :=
  PE.imp (pe_make M F hr hg hm hb hd pass0 ha hdb he hpl) fun σ H Q ⟨F, ρ, fp, R, S, hf, k⟩ => ⟨F, ρ, fp, _, S, hf, fun F1 H1 vs xs fp1 s1 hv o1 n1 hW x dx hx hdx ne =>
    make_ok s1.wf ((hv.rl0 hms).append (hdd F1)) hx hdx ne hW (k.after s1 (A1 := fp1) fun a ha => (o1 a ha).1)⟩
theorem de_make0 (M : Mk X.K C fa) (F : FnOk X.prog X.w X.K X.mg X.base CX0 k fa fd ps (spM X.K (n + 1) m W)) (hr : Room (k + 1) X.A) (hg : Gl X x) (hm : X.mg x = some (.ref C)) (hb : Binds X.K fd ps ds) (hd : Vals dvs ds) (hdd : Dflt X.K dvs dd)
    (hdb : (x == ("__debug__" : Str)) = false := by decide) : DE X B (.Call (.Name x p) [] [] pos) (.own (n + 1)) (fun _ R => W (.obj C []) dd fun d s => d = .non ∧ R s) :=
  PE.imp (pe_make0 M F hr hg hm hb hd pass0 hdb) fun σ H Q ⟨F, ρ, fp, R, S, hf, k⟩ x dx hx hdx ne => make_ok S.wf (hdd F) hx hdx ne hf k
/-- o.m() -/
theorem de_meth0 {mt : Str} {o : Expr} {fo : FE} {W : BSpec} {apos : Pos} {pl : Sem Bool} (ho : DE X B o (.own 0) fo) (c : Cls X.K C) (hm : Meth X.K C mt fa) (F : FnOk X.prog X.w X.K X.mg X.base CX0 k fa fd ps (spD X.K m W)) (hr : Room k X.A) (hb : Binds X.K fd ps ds) (hd : Vals dvs ds) (hdd : Dflt X.K dvs dd)
    (ht : eval (.Call (.Attribute o mt apos) [] [] pos) X.env = (do
      let ov ← eval o X.env
      standAt apos.atName
      let (f, first) ← holding [ov] (getMethod ov mt pl)
      callWith pos f first (backTo pos (starEach [] X.env)) (backToKw pos (keywordEach [] X.env))) := by rfl) :
    DE X B (.Call (.Attribute o mt apos) [] [] pos) m (fun ρ R => fo ρ fun x => isObjD C mt x ∧ W B (x :: dd) R) :=
  PE.imp (pe_meth0 ho c hm F hr hb hd pass0 ht) fun σ H Q ⟨F, ρ, fp, R, S, hf, k⟩ => by
    refine ⟨F, ρ, fp, _, S, hf, fun F1 H1 v x f1 s1 hv o1 n1 ⟨hx, hg⟩ => ?_⟩
    obtain ⟨es', rfl, hl'⟩ := hx.inv
    obtain ⟨ef, a, dx, gs, ev, ea, hk, it⟩ := hv.obj rfl s1.wf
    subst ev
    refine ⟨a, dx, gs, rfl, ea, lookup_none hk hl', ?_⟩
    have hx1 : GK.R X.K F1 (.ref a) (.obj C es') := hv.1
    exact call_all (vs := .ref a :: ([] ++ dvs)) s1.wf (.cons hx1 (hdd F1)) hg (k.after s1 (A1 := []) fun a ha => (by cases ha))
end
end GK

namespace GK
open PySem PySem.Spec PyProof.Rows L2

/-! ### tests -/
def bOf (R : Bool → Prop) : D → Prop
  | .bl b => R b
  | _ => False
abbrev fBool (f : FE) : FT := fun ρ R => f ρ (bOf R)
section
variable {K : PySem.W.Frag} {m : Mode} {σ : L2.St} {H : Hp} {f : FE}
theorem tD_bool {Q : Bool → Hp → Prop} (h : tDT K B (fBool f) σ H Q) : tD K B m f σ H fun x H' => ∃ k, x = .bl k ∧ Q k H' := by
  obtain ⟨F, ρ, fp, R, S, hf, k⟩ := h
  refine ⟨F, ρ, fp, _, S, hf, fun F' H' v d f' s hv ho hn hR => ?_⟩
  cases d <;> try exact (show False from hR).elim
  obtain ⟨rfl, _⟩ := hv.bl
  exact ⟨_, rfl, k F' H' _ s hR⟩
end
section
variable {X : Cx} {a b e : Expr} {rest : List Expr} {op : CmpOp} {pos : Pos} {m m1 m2 : Mode} {r : R2} {g : D → D → (D → Prop) → Prop} {f f' : FE} {ft ft' : FT}
theorem dt_cmp (m : Mode) (ho : OpR X (compareOp op) r) (hr : Op2 X.K r m1 m2 m g) (ha : DE X B a m1 f) (hb : DE X B b m2 f') (hm : behindInMarks op b = false) : DT X B (.Compare a [op] [b] pos) (fBool (fBin g f f')) :=
  PT.imp (pt_cmpR ho ha hb hm) fun _ _ _ q => tD_bin (m := m) (g := g) hr (tD_bool q)
/-- an expression whose value is True or False -/
theorem dt_val (h : DE X B e m f) (he : ∀ whole, isTrue e X.env whole = (do let v ← whole; standAt e.pos; holding [v] (truthy v)) := by intro _; rfl) : DT X B e (fBool f) :=
  PT.imp (pt_val h he) fun _ _ _ q => tD_bool q
theorem dt_not (h : DT X B a ft) : DT X B (.UnaryOp .Not a pos) (fun ρ R => ft ρ fun c => R (!c)) :=
  PT.imp (pt_not h) fun _ _ _ ⟨F, ρ, fp, R, S, hf, k⟩ => ⟨F, ρ, fp, _, S, hf, fun F' H' c s hR => k F' H' _ s hR⟩
abbrev DW (X : Cx) (B : List Addr) (e : Expr) (f : FT) : Prop := PW X e (tDT X.K B f)
theorem dw_and1 (h : DT X B a ft) : DW X B (.BoolOp .And [a] pos) ft := pw_and1 h
theorem dw_or1 (h : DT X B a ft) : DW X B (.BoolOp .Or [a] pos) ft := pw_or1 h
theorem dw_and (h : DT X B a ft) (h' : DW X B (.BoolOp .And (b :: rest) pos) ft') : DW X B (.BoolOp .And (a :: b :: rest) pos) (fun ρ R => ft ρ fun c => if c = true then ft' ρ R else R false) :=
  PW.imp (pw_and h h') fun σ H Q ⟨F, ρ, fp, R, S, hf, k⟩ => ⟨F, ρ, fp, _, S, hf, fun F1 H1 c s hR => by
    cases c with
    | true => exact ⟨F1, ρ, fp, R, S.step s (fun a h => by cases h), hR, fun F2 H2 d s2 hd => k F2 H2 d (s.trans s2 fun a h => by cases h) hd⟩
    | false => exact k F1 H1 _ s (by simpa using hR)⟩
theorem dw_or (h : DT X B a ft) (h' : DW X B (.BoolOp .Or (b :: rest) pos) ft') : DW X B (.BoolOp .Or (a :: b :: rest) pos) (fun ρ R => ft ρ fun c => if c = true then R true else ft' ρ R) :=
  PW.imp (pw_or h h') fun σ H Q ⟨F, ρ, fp, R, S, hf, k⟩ => ⟨F, ρ, fp, _, S, hf, fun F1 H1 c s hR => by
    cases c with
    | true => exact k F1 H1 _ s (by simpa using hR)
    | false => exact ⟨F1, ρ, fp, R, S.step s (fun a h => by cases h), hR, fun F2 H2 d s2 hd => k F2 H2 d (s.trans s2 fun a h => by cases h) hd⟩⟩
theorem dt_bool (h : DW X B e ft) : DT X B e ft := h.pt
/-- as values -/
def fAndV (f f' : FE) : FE := fun ρ R => f ρ (bOf fun c => if c = true then f' ρ R else R (.bl false))
def fOrV (f f' : FE) : FE := fun ρ R => f ρ (bOf fun c => if c = true then R (.bl true) else f' ρ R)
theorem de_one {op} (h : DE X B a m f) : DE X B (.BoolOp op [a] pos) m f := pe_one h
theorem de_and (h : DE X B a m1 f) (h' : DE X B (.BoolOp .And (b :: rest) pos) m f') : DE X B (.BoolOp .And (a :: b :: rest) pos) m (fAndV f f') :=
  PE.imp (pe_and h h') fun σ H Q ⟨F, ρ, fp, R, S, hf, k⟩ => ⟨F, ρ, fp, _, S, hf, fun F1 H1 v d f1 s hv ho hn hR => by
    cases d <;> try exact (show False from hR).elim
    obtain ⟨rfl, rfl⟩ := hv.bl
    refine ⟨_, rfl, ?_⟩
    rename_i c
    have hR : if c = true then f' ρ R else R (.bl false) := hR
    cases c with
    | true => exact ⟨F1, ρ, fp, R, S.step s (fun a h => by cases h), hR, k.after s fun a h => by cases h⟩
    | false => exact k.after s (A1 := []) (fun a h => by cases h) |>.bl s.wf (by simpa using hR)⟩
theorem de_or (h : DE X B a m1 f) (h' : DE X B (.BoolOp .Or (b :: rest) pos) m f') : DE X B (.BoolOp .Or (a :: b :: rest) pos) m (fOrV f f') :=
  PE.imp (pe_or h h') fun σ H Q ⟨F, ρ, fp, R, S, hf, k⟩ => ⟨F, ρ, fp, _, S, hf, fun F1 H1 v d f1 s hv ho hn hR => by
    cases d <;> try exact (show False from hR).elim
    obtain ⟨rfl, rfl⟩ := hv.bl
    refine ⟨_, rfl, ?_⟩
    rename_i c
    have hR : if c = true then R (.bl true) else f' ρ R := hR
    cases c with
    | true => exact k.after s (A1 := []) (fun a h => by cases h) |>.bl s.wf (by simpa using hR)
    | false => exact ⟨F1, ρ, fp, R, S.step s (fun a h => by cases h), by simpa using hR, k.after s fun a h => by cases h⟩⟩
def gNotV : D → (D → Prop) → Prop
  | .bl b, R => R (.bl (!b))
  | _, _ => False
theorem de_not (h : DE X B a m1 f) : DE X B (.UnaryOp .Not a pos) m (fUn gNotV f) :=
  PE.imp (pe_not h) fun σ H Q q => tD_un (m := m) (g := gNotV) (f := f) (r := fun x H1 Q => ∃ c, x = .bl c ∧ Q (.bl (!c)) H1) (by
    intro B F H x d fp R Q w hv hf hg k
    cases d <;> try exact (show False from hg).elim
    obtain ⟨rfl, rfl⟩ := hv.bl
    exact ⟨_, rfl, k.bl w hg⟩) q
theorem de_ifExp {c : Expr} (hc : DT X B c ft) (ha : DE X B a m f) (hb : DE X B b m f') : DE X B (.IfExp c a b pos) m (fun ρ R => ft ρ fun t => if t = true then f ρ R else f' ρ R) :=
  PE.imp (pe_ifExp hc ha hb) fun σ H Q ⟨F, ρ, fp, R, S, hf, k⟩ => ⟨F, ρ, fp, _, S, hf, fun F1 H1 c s hR => by
    cases c with
    | true => exact ⟨F1, ρ, fp, R, S.step s (fun a h => by cases h), hR, k.after s fun a h => by cases h⟩
    | false => exact ⟨F1, ρ, fp, R, S.step s (fun a h => by cases h), by simpa using hR, k.after s fun a h => by cases h⟩⟩
end

/-! ### equality -/
/-- of atoms -/
def eqA : D → D → Option Bool
  | .int i, .int j => some (decide (i = j))
  | .str i, .str j => some (decide (i = j))
  | .bl i, .bl j => some (decide (i = j))
  | .non, .non => some true
  | .non, .int _ => some false
  | .int _, .non => some false
  | .non, .str _ => some false
  | .str _, .non => some false
  | .int _, .str _ => some false
  | .str _, .int _ => some false
  | .non, .bl _ => some false
  | .bl _, .non => some false
  | _, _ => none
def gEqA (n : Bool) (x y : D) (R : D → Prop) : Prop := match eqA x y with
  | some b => R (.bl (n ^^ b))
  | none => False
theorem eqA_spec {K : PySem.W.Frag} {m1 m2 : Mode} {B f1 f2 : List Addr} {F H : Hp} {x y : V} {d e : D} {b : Bool} (h : eqA d e = some b) (hx : Val K m1 B F H x d f1) (hy : Val K m2 B F H y e f2) : scal x y = true ∧ decide (x = y) = b := by
  cases d <;> cases e <;> try (cases h; done)
  all_goals first
    | (obtain ⟨rfl, _⟩ := hx.int) | (obtain ⟨rfl, _⟩ := hx.str) | (obtain ⟨rfl, _⟩ := hx.bl) | (obtain ⟨rfl, _⟩ := hx.non)
  all_goals first
    | (obtain ⟨rfl, _⟩ := hy.int) | (obtain ⟨rfl, _⟩ := hy.str) | (obtain ⟨rfl, _⟩ := hy.bl) | (obtain ⟨rfl, _⟩ := hy.non)
  all_goals (cases h; refine ⟨rfl, ?_⟩; first | simp | rfl)
/-! of data at any depth -/
mutual
def toP : D → PyData
  | .non => .none
  | .bl b => .bool b
  | .int i => .int i
  | .str s => .str s
  | .tup xs => .tuple (toPs xs)
  | .lst xs => .list (toPs xs)
  | .raw _ => .none
  | .kp d => toP d
  | .dK _ => .none
  | .dT _ => .none
  | .obj _ _ => .none
def toPs : List D → List PyData
  | [] => []
  | d :: ds => toP d :: toPs ds
end
mutual
/-- None, bools, ints, texts, tuples and lists of such, n deep -/
def okD : Nat → D → Bool
  | _, .non => true
  | _, .bl _ => true
  | _, .int _ => true
  | _, .str s => s.cps.all (· < 0x110000)
  | n + 1, .tup xs => okDs n xs
  | n + 1, .lst xs => okDs n xs
  | n, .kp d => okD n d
  | _, _ => false
def okDs : Nat → List D → Bool
  | _, [] => true
  | n, d :: ds => okD n d && okDs n ds
end
mutual
theorem okD_can : ∀ {n : Nat} {d : D}, okD n d = true → (toP d).canLay0 = true ∧ (toP d).depth ≤ n
  | n, .non, _ => by simp [toP, PyData.canLay0, PyData.depth]
  | n, .bl b, _ => by simp [toP, PyData.canLay0, PyData.depth]
  | n, .int b, _ => by simp [toP, PyData.canLay0, PyData.depth]
  | n, .str b, h => by
    refine ⟨?_, by simp [toP, PyData.depth]⟩
    have h : (b.cps.all (· < 0x110000)) = true := by simpa [okD] using h
    simp only [toP, PyData.canLay0]
    exact h
  | n + 1, .tup xs, h => by
    have h := okDs_can (n := n) (ds := xs) (by simpa [okD] using h)
    simp only [toP, PyData.canLay0, PyData.depth]
    exact ⟨h.1, by have := h.2; omega⟩
  | n + 1, .lst xs, h => by
    have h := okDs_can (n := n) (ds := xs) (by simpa [okD] using h)
    simp only [toP, PyData.canLay0, PyData.depth]
    exact ⟨h.1, by have := h.2; omega⟩
  | 0, .tup xs, h => by simp [okD] at h
  | 0, .lst xs, h => by simp [okD] at h
  | n, .raw _, h => by simp [okD] at h
  | n, .kp d, h => by
    have h := okD_can (n := n) (d := d) (by simpa [okD] using h)
    simp only [toP]
    exact h
  | n, .dK _, h => by simp [okD] at h
  | n, .dT _, h => by simp [okD] at h
  | n, .obj _ _, h => by simp [okD] at h
theorem okDs_can : ∀ {n : Nat} {ds : List D}, okDs n ds = true → PyData.canLayAll0 (toPs ds) = true ∧ PyData.depthAll (toPs ds) ≤ n
  | n, [], _ => by simp [toPs, PyData.canLayAll0, PyData.depthAll]
  | n, d :: ds, h => by
    rw [okDs, Bool.and_eq_true] at h
    have h1 := okD_can h.1
    have h2 := okDs_can h.2
    simp only [toPs, PyData.canLayAll0, PyData.depthAll, Bool.and_eq_true]
    exact ⟨⟨h1.1, h2.1⟩, by have := h1.2; have := h2.2; omega⟩
end
theorem okD_shaped {n : Nat} {d : D} (h : okD n d = true) (hn : n ≤ 64) : SeqAt.shaped (toP d) = true := by
  obtain ⟨h1, h2⟩ := okD_can h
  exact Bool.and_eq_true_iff.mpr ⟨h1, decide_eq_true (Nat.le_trans h2 hn)⟩
mutual
theorem R.dp {K : PySem.W.Frag} {B : List Addr} {H : Hp} : ∀ {n : Nat} {v : V} {d : D}, okD n d = true → R K (rdH B H) v d → Dp K H v (toP d)
  | n, _, .non, _, r => by cases r; simp only [toP]; exact .non
  | n, _, .bl b, _, r => by cases r; simp only [toP]; exact .bl b
  | n, _, .int i, _, r => by cases r; simp only [toP]; exact .int i
  | n, _, .str s, _, r => by cases r; simp only [toP]; exact .str s
  | n + 1, _, .tup xs, h, r => by
    obtain ⟨a, vs, rfl, ht, rl⟩ := r.tupI
    simp only [toP]
    exact .tup (sqT_rd ht) (RL.dp (n := n) (by simpa [okD] using h) rl)
  | n + 1, _, .lst xs, h, r => by
    obtain ⟨a, vs, rfl, ht, rl⟩ := r.lstI
    simp only [toP]
    exact .lst (sqL_rd ht) (RL.dp (n := n) (by simpa [okD] using h) rl)
  | 0, _, .tup xs, h, r => by simp [okD] at h
  | 0, _, .lst xs, h, r => by simp [okD] at h
  | n, _, .raw _, h, r => by simp [okD] at h
  | n, _, .kp d, h, r => by
    cases r with
    | kp r =>
      simp only [toP]
      exact R.dp (n := n) (d := d) (by simpa [okD] using h) r
  | n, _, .dK _, h, r => by simp [okD] at h
  | n, _, .dT _, h, r => by simp [okD] at h
  | n, _, .obj _ _, h, r => by simp [okD] at h
theorem RL.dp {K : PySem.W.Frag} {B : List Addr} {H : Hp} : ∀ {n : Nat} {vs : List V} {ds : List D}, okDs n ds = true → RL K (rdH B H) vs ds → DpAll K H vs (toPs ds)
  | n, _, [], _, r => by cases r; simp only [toPs]; exact .nil
  | n, _, d :: ds, h, r => by
    rw [okDs, Bool.and_eq_true] at h
    cases r with
    | cons r t =>
      simp only [toPs]
      exact .cons (R.dp h.1 r) (RL.dp h.2 t)
end
def eqvD (x y : D) : Bool := PyData.eqv (toP x) (toP y)
def gEqD (n : Bool) (x y : D) (R : D → Prop) : Prop := okD 60 x = true ∧ okD 60 y = true ∧ R (.bl (n ^^ eqvD x y))
section
variable {X : Cx} {a b : Expr} {pos : Pos} {m m1 m2 : Mode} {f f' : FE}
theorem op2_eqA {K : PySem.W.Frag} : Op2 K rEq m1 m2 m (gEqA false) := by
  intro B F H x y d e fp R Q w ⟨f1, f2, ef, h1, h2⟩ _ hg k
  unfold gEqA at hg
  split at hg
  · rename_i b hb
    obtain ⟨s, ed⟩ := eqA_spec hb h1 h2
    refine ⟨s, ?_⟩
    rw [ed]
    exact k.bl w (by simpa using hg)
  · exact hg.elim
theorem op2_neA {K : PySem.W.Frag} : Op2 K rNe m1 m2 m (gEqA true) := by
  intro B F H x y d e fp R Q w ⟨f1, f2, ef, h1, h2⟩ _ hg k
  unfold gEqA at hg
  split at hg
  · rename_i b hb
    obtain ⟨s, ed⟩ := eqA_spec hb h1 h2
    refine ⟨s, ?_⟩
    rw [ed]
    exact k.bl w (by simpa using hg)
  · exact hg.elim
theorem op2_eqD {K : PySem.W.Frag} : Op2 K (rEqD K) m1 m2 m (gEqD false) := by
  intro B F H x y d e fp R Q w ⟨f1, f2, ef, h1, h2⟩ hf ⟨o1, o2, hg⟩ k
  subst ef
  have r1 := h1.rd w fun a ha => (hf.1 a (List.mem_append_left _ ha)).2
  have r2 := h2.rd w fun a ha => (hf.1 a (List.mem_append_right _ ha)).2
  refine ⟨_, _, GK.R.dp o1 r1, GK.R.dp o2 r2, okD_shaped o1 (by decide), okD_shaped o2 (by decide), k.bl w ?_⟩
  simpa [eqvD] using hg
theorem op2_neD {K : PySem.W.Frag} : Op2 K (rNeD K) m1 m2 m (gEqD true) := by
  intro B F H x y d e fp R Q w ⟨f1, f2, ef, h1, h2⟩ hf ⟨o1, o2, hg⟩ k
  subst ef
  have r1 := h1.rd w fun a ha => (hf.1 a (List.mem_append_left _ ha)).2
  have r2 := h2.rd w fun a ha => (hf.1 a (List.mem_append_right _ ha)).2
  refine ⟨_, _, GK.R.dp o1 r1, GK.R.dp o2 r2, okD_shaped o1 (by decide), okD_shaped o2 (by decide), k.bl w ?_⟩
  simpa [eqvD] using hg
theorem de_eq (ha : DE X B a m1 f) (hb : DE X B b m2 f') : DE X B (.Compare a [.Eq] [b] pos) m (fBin (gEqA false) f f') := de_cmp op_eq op2_eqA ha hb (nomark _)
theorem de_ne (ha : DE X B a m1 f) (hb : DE X B b m2 f') : DE X B (.Compare a [.NotEq] [b] pos) m (fBin (gEqA true) f f') := de_cmp op_ne op2_neA ha hb (nomark _)
theorem dt_eq (ha : DE X B a m1 f) (hb : DE X B b m2 f') : DT X B (.Compare a [.Eq] [b] pos) (fBool (fBin (gEqA false) f f')) := dt_cmp .rd op_eq op2_eqA ha hb (nomark _)
theorem dt_ne (ha : DE X B a m1 f) (hb : DE X B b m2 f') : DT X B (.Compare a [.NotEq] [b] pos) (fBool (fBin (gEqA true) f f')) := dt_cmp .rd op_ne op2_neA ha hb (nomark _)
theorem de_eqD (hu : X.A.units + 64 < cLine) (ha : DE X B a m1 f) (hb : DE X B b m2 f') : DE X B (.Compare a [.Eq] [b] pos) m (fBin (gEqD false) f f') := de_cmp (op_eqD hu) op2_eqD ha hb (nomark _)
theorem de_neD (hu : X.A.units + 64 < cLine) (ha : DE X B a m1 f) (hb : DE X B b m2 f') : DE X B (.Compare a [.NotEq] [b] pos) m (fBin (gEqD true) f f') := de_cmp (op_neD hu) op2_neD ha hb (nomark _)
theorem dt_eqD (hu : X.A.units + 64 < cLine) (ha : DE X B a m1 f) (hb : DE X B b m2 f') : DT X B (.Compare a [.Eq] [b] pos) (fBool (fBin (gEqD false) f f')) := dt_cmp .rd (op_eqD hu) op2_eqD ha hb (nomark _)
theorem dt_neD (hu : X.A.units + 64 < cLine) (ha : DE X B a m1 f) (hb : DE X B b m2 f') : DT X B (.Compare a [.NotEq] [b] pos) (fBool (fBin (gEqD true) f f')) := dt_cmp .rd (op_neD hu) op2_neD ha hb (nomark _)
theorem dt_lt (ha : DE X B a m1 f) (hb : DE X B b m2 f') : DT X B (.Compare a [.Lt] [b] pos) (fBool (fBin gLt f f')) := dt_cmp .rd op_lt op2B0 ha hb (nomark _)
theorem dt_le (ha : DE X B a m1 f) (hb : DE X B b m2 f') : DT X B (.Compare a [.LtE] [b] pos) (fBool (fBin gLe f f')) := dt_cmp .rd op_le op2B0 ha hb (nomark _)
theorem dt_gt (ha : DE X B a m1 f) (hb : DE X B b m2 f') : DT X B (.Compare a [.Gt] [b] pos) (fBool (fBin gGt f f')) := dt_cmp .rd op_gt op2B0 ha hb (nomark _)
theorem dt_ge (ha : DE X B a m1 f) (hb : DE X B b m2 f') : DT X B (.Compare a [.GtE] [b] pos) (fBool (fBin gGe f f')) := dt_cmp .rd op_ge op2B0 ha hb (nomark _)
/-- is None -/
def gIsN (n : Bool) : D → D → (D → Prop) → Prop
  | .raw _, _, _ => False
  | .kp _, _, _ => False
  | .non, .non, R => R (.bl (!n))
  | _, .non, R => R (.bl n)
  | _, _, _ => False
theorem isN_ref {K : PySem.W.Frag} {G : Hp} {v : V} {d : D} (r : R K G v d) (h : d ≠ .non) (h2 : ∀ w, d ≠ .raw w) (h3 : ∀ w, d ≠ .kp w) : decide (v = .non) = false := by
  cases r <;> first | exact absurd rfl h | rfl | exact absurd rfl (h2 _) | exact absurd rfl (h3 _)
theorem op2_isN {K : PySem.W.Frag} {n : Bool} : Op2 K (fun x y H Q => y = .non ∧ Q (.bl (n ^^ decide (x = .non))) H) m1 m2 m (gIsN n) := by
  intro B F H x y d e fp R Q w ⟨f1, f2, ef, h1, h2⟩ hf hg k
  subst ef
  have r1 := h1.rd w fun a ha => (hf.1 a (List.mem_append_left _ ha)).2
  cases e <;> try (cases d <;> exact (show False from hg).elim)
  obtain ⟨rfl, _⟩ := h2.non
  refine ⟨rfl, ?_⟩
  cases d
  case non =>
    obtain ⟨rfl, _⟩ := h1.non
    exact k.bl w (by cases n <;> exact hg)
  case raw => exact (show False from hg).elim
  case kp => exact (show False from hg).elim
  all_goals (rw [isN_ref r1 (by intro z; cases z) (by intro w z; cases z) (by intro w z; cases z)]; exact k.bl w (by cases n <;> exact hg))
theorem op_isN' : OpR X (compareOp .Is) (fun x y H Q => y = .non ∧ Q (.bl (false ^^ decide (x = .non))) H) := fun pins s σ H x y v u Q I rx ry ⟨h1, h2⟩ => op_isN pins s σ H x y v u Q I rx ry ⟨h1, by simpa using h2⟩
theorem op_notN' : OpR X (compareOp .IsNot) (fun x y H Q => y = .non ∧ Q (.bl (true ^^ decide (x = .non))) H) := fun pins s σ H x y v u Q I rx ry ⟨h1, h2⟩ => op_notN pins s σ H x y v u Q I rx ry ⟨h1, by simpa using h2⟩
theorem de_is (ha : DE X B a m1 f) (hb : DE X B b m2 f') : DE X B (.Compare a [.Is] [b] pos) m (fBin (gIsN false) f f') := de_cmp op_isN' op2_isN ha hb (nomark _)
theorem de_isnot (ha : DE X B a m1 f) (hb : DE X B b m2 f') : DE X B (.Compare a [.IsNot] [b] pos) m (fBin (gIsN true) f f') := de_cmp op_notN' op2_isN ha hb (nomark _)
theorem dt_is (ha : DE X B a m1 f) (hb : DE X B b m2 f') : DT X B (.Compare a [.Is] [b] pos) (fBool (fBin (gIsN false) f f')) := dt_cmp .rd op_isN' op2_isN ha hb (nomark _)
theorem dt_isnot (ha : DE X B a m1 f) (hb : DE X B b m2 f') : DT X B (.Compare a [.IsNot] [b] pos) (fBool (fBin (gIsN true) f f')) := dt_cmp .rd op_notN' op2_isN ha hb (nomark _)
end
end GK

namespace GK
open PySem PySem.Spec PyProof.Rows L2

/-! ### items -/
def gIxL : D → D → (D → Prop) → Prop
  | .lst ds, .int i, R => ∃ d, atI ds i = some d ∧ R d
  | _, _, _ => False
def gIxT : D → D → (D → Prop) → Prop
  | .tup ds, .int i, R => ∃ d, atI ds i = some d ∧ R d
  | _, _, _ => False
def gIxS : D → D → (D → Prop) → Prop
  | .str z, .int i, R => z.length ≤ sizeLine ∧ ∃ c, atI z.cps.toList i = some c ∧ R (.str ⟨#[c]⟩)
  | _, _, _ => False
/-- list, tuple or text -/
def gIx : D → D → (D → Prop) → Prop
  | .lst ds, .int i, R => ∃ d, atI ds i = some d ∧ R d
  | .tup ds, .int i, R => ∃ d, atI ds i = some d ∧ R d
  | _, _, _ => False
theorem atI_same {α β : Type} {xs : List α} {ys : List β} {i : Int} {d : β} (h : xs.length = ys.length) (e : atI ys i = some d) : ∃ j : Nat, ys[j]? = some d ∧ ∀ x, xs[j]? = some x → atI xs i = some x := by
  unfold atI at e ⊢
  rw [h]
  cases q : ixN ys.length i with
  | none => rw [q] at e; cases e
  | some j =>
    rw [q] at e
    exact ⟨j, e, fun x hx => hx⟩
section
variable {K : PySem.W.Frag} {m m2 : Mode}
theorem op2_ix (hm : m.look = true) : Op2 K (rIx K) m m2 m.child gIx := by
  intro B F H x y d e fp R Q w ⟨f1, f2, ef, h1, h2⟩ _ hg k
  cases d <;> cases e <;> try exact (show False from hg).elim
  · obtain ⟨c, hc, hR⟩ := hg
    obtain ⟨rfl, _⟩ := h2.int
    obtain ⟨_, a, vs, rfl, hs, it⟩ := h1.tup hm w
    obtain ⟨j, e1, e2⟩ := atI_same it.1 hc
    obtain ⟨v, e3, hv⟩ := it.2 j c e1
    exact .inr (.inl ⟨a, vs, _, v, rfl, rfl, hs, e2 v e3, k.val w hv hR⟩)
  · obtain ⟨c, hc, hR⟩ := hg
    obtain ⟨rfl, _⟩ := h2.int
    obtain ⟨_, a, vs, rfl, hs, it⟩ := h1.lst hm w
    obtain ⟨j, e1, e2⟩ := atI_same it.1 hc
    obtain ⟨v, e3, hv⟩ := it.2 j c e1
    exact .inl ⟨a, vs, _, v, rfl, rfl, hs, e2 v e3, k.val w hv hR⟩
theorem op2_ixS {m1 : Mode} : Op2 K rIxS m1 m2 m gIxS := by
  intro B F H x y d e fp R Q w ⟨f1, f2, ef, h1, h2⟩ _ hg k
  cases d <;> cases e <;> try exact (show False from hg).elim
  obtain ⟨hz, c, hc, hR⟩ := hg
  obtain ⟨rfl, _⟩ := h1.str
  obtain ⟨rfl, _⟩ := h2.int
  exact ⟨_, _, c, rfl, rfl, hz, hc, k.str w hR⟩
end
section
variable {X : Cx} {a b : Expr} {pos : Pos} {m m1 m2 : Mode} {f f' : FE}
/-- xs[i], t[i] -/
theorem de_at (ha : DE X B a m f) (hb : DE X B b m2 f') (hm : m.look = true := by rfl) (hs : PlainIx b := by exact fun _ _ => rfl) : DE X B (.Subscript a b pos) m.child (fBin gIx f f') := de_ix ix_seq (op2_ix hm) ha hb hs
theorem de_atS (ha : DE X B a m1 f) (hb : DE X B b m2 f') (hs : PlainIx b := by exact fun _ _ => rfl) : DE X B (.Subscript a b pos) m (fBin gIxS f f') := de_ix ix_str op2_ixS ha hb hs
end

/-! ### dicts, read -/
def lookD : D → D → Option (Option D)
  | .dK es, k => (keyOf k).map (getD' es)
  | .dT es, k => (keyT k).map (getD' es)
  | _, _ => none
theorem look_ok {K : PySem.W.Frag} {m mk : Mode} {B f1 f2 : List Addr} {F H : Hp} {v kv : V} {d kd : D} {o : Option D} (hm : m.look = true) (w : WF B F H) (hv : Val K m B F H v d f1) (hk : R K (rdH B H) kv kd) (h : lookD d kd = some o) :
    ∃ a ov, v = .ref a ∧ DGet H a kv ov ∧ IsD H a ∧ ((o = none ∧ ov = none) ∨ ∃ x y, o = some x ∧ ov = some y ∧ Val K m.child B F H y x []) := by
  cases d <;> try (cases h; done)
  · rename_i es
    obtain ⟨k, ek, eo⟩ := Option.map_eq_some_iff.mp h
    subst eo
    obtain ⟨_, a, kvs, rfl, hr, hk', it⟩ := hv.dK hm w
    have e := keyOf_R ek hk
    subst e
    refine ⟨a, valV kvs k, rfl, .inl ⟨kvs, k, hr, rfl, rfl⟩, .inl ⟨kvs, hr⟩, ?_⟩
    rcases val_get (k := k) hk' with ⟨h1, h2⟩ | ⟨i, y, x, h1, h2, h3, h4⟩
    · exact .inl ⟨h2, h1⟩
    · obtain ⟨y', e3, hy⟩ := it.2 i x h4
      rw [h3] at e3; cases e3
      exact .inr ⟨x, y, h2, h1, hy⟩
  · rename_i es
    obtain ⟨k, ek, eo⟩ := Option.map_eq_some_iff.mp h
    subst eo
    obtain ⟨_, a, kvs, rfl, hr, hk', it⟩ := hv.dT hm w
    cases kd <;> try (cases ek; done)
    rename_i js
    obtain ⟨b, ws, rfl, ht, rl⟩ := hk.tupI
    have e : ws = k.map kV := keysOf_R ek rl
    subst e
    refine ⟨a, valV kvs k, rfl, .inr ⟨kvs, k, b, hr, rfl, tup_of w ht, rfl⟩, .inr ⟨kvs, hr⟩, ?_⟩
    rcases val_get (k := k) hk' with ⟨h1, h2⟩ | ⟨i, y, x, h1, h2, h3, h4⟩
    · exact .inl ⟨h2, h1⟩
    · obtain ⟨y', e3, hy⟩ := it.2 i x h4
      rw [h3] at e3; cases e3
      exact .inr ⟨x, y, h2, h1, hy⟩
theorem DGet.step {H H' : Hp} {B A : List Addr} {F F' : Hp} {a : Addr} {kv : V} {o : Option V} (s : Step B A F H F' H') (g : DGet H a kv o) (ha : a ∉ B) (hb : ∀ b, kv = .ref b → b ∉ B) : DGet H' a kv o := by
  have rd : ∀ {u : HO}, Rd H a u → Rd H' a u := fun {u} r => r.imp (s.same a _ ha) fun ⟨ob, e⟩ => ⟨ob, s.same a _ ha e⟩
  rcases g with ⟨kvs, k, h1, h2, h3⟩ | ⟨kvs, k, b, h1, h2, h3, h4⟩
  · exact .inl ⟨kvs, k, rd h1, h2, h3⟩
  · exact .inr ⟨kvs, k, b, rd h1, h2, s.same b _ (hb b h2) h3, h4⟩
def gDGet (d k : D) (R : D → Prop) : Prop := ∃ x, lookD d k = some (some x) ∧ R x
def gDIn (n : Bool) (k d : D) (R : D → Prop) : Prop := ∃ o, lookD d k = some o ∧ R (.bl (n ^^ o.isSome))
section
variable {K : PySem.W.Frag} {m m1 m2 : Mode}
theorem op2_dget (hm : m.look = true) : Op2 K (fun x y H Q => ∃ a v, x = .ref a ∧ DGet H a y (some v) ∧ Q v H) m m2 m.child gDGet := by
  intro B F H x y d e fp R Q w ⟨f1, f2, ef, h1, h2⟩ hf ⟨z, hz, hR⟩ k
  subst ef
  have r2 := h2.rd w fun a ha => (hf.1 a (List.mem_append_right _ ha)).2
  obtain ⟨a, ov, rfl, g, _, h⟩ := look_ok (m := m) (mk := m2) (f2 := f2) hm w h1 r2 hz
  rcases h with ⟨q, _⟩ | ⟨x', y', e1, e2, hv⟩
  · cases q
  · cases e1
    rw [e2] at g
    exact ⟨a, y', rfl, g, k.val w hv hR⟩
theorem op2_din (hm : m.look = true) {n : Bool} : Op2 K (fun y x H Q => ∃ a o, x = .ref a ∧ DGet H a y o ∧ Q (.bl (n ^^ o.isSome)) H) m2 m m1 (gDIn n) := by
  intro B F H x y d e fp R Q w ⟨f1, f2, ef, h1, h2⟩ hf ⟨o, hz, hR⟩ k
  subst ef
  have r1 := h1.rd w fun a ha => (hf.1 a (List.mem_append_left _ ha)).2
  obtain ⟨a, ov, rfl, g, _, h⟩ := look_ok (m := m) (mk := m2) (f2 := f1) hm w h2 r1 hz
  refine ⟨a, ov, rfl, g, k.bl w ?_⟩
  rcases h with ⟨q, q'⟩ | ⟨x', y', e1, e2, hv⟩
  · rw [q'] ; rw [q] at hR; exact hR
  · rw [e2]; rw [e1] at hR; exact hR
end
section
variable {X : Cx} {a b c : Expr} {pos apos cpos : Pos} {m m0 m1 m2 m3 : Mode} {f f' f'' : FE}
/-- d[k] -/
theorem de_dget (hu : X.A.units + 1 < cLine) (ha : DE X B a m f) (hb : DE X B b m2 f') (hm : m.look = true := by rfl) (hs : NoSl b := by exact fun _ _ => rfl) : DE X B (.Subscript a b pos) m.child (fBin gDGet f f') :=
  PE.imp (pe_dget hu ha hb hs) fun _ _ _ q => tD_bin (r := fun x y H Q => ∃ a v, x = .ref a ∧ DGet H a y (some v) ∧ Q v H) (op2_dget hm) q
theorem tD_in {K : PySem.W.Frag} {σ : L2.St} {H : Hp} {Q : VK} {n : Bool} (hm : m.look = true) (q : tD K B m1 (fBin (gDIn n) f f') σ H Q) : tD K B m2 f σ H fun y H1 => tD K B m f' σ H1 fun x H2 => ∃ a o, x = .ref a ∧ DGet H2 a y o ∧ Q (.bl (n ^^ o.isSome)) H2 :=
  tD_bin (r := fun y x H Q => ∃ a o, x = .ref a ∧ DGet H a y o ∧ Q (.bl (n ^^ o.isSome)) H) (op2_din hm) q
theorem pc_din' {i o : Expr} {ty td : TE} (hu : X.A.units + 1 < cLine) (hi : PE X i ty) (ho : PE X o td) : PC X .In i o (fun σ H Q => ty σ H fun y H1 => td σ H1 fun x H2 => ∃ a o, x = .ref a ∧ DGet H2 a y o ∧ Q (.bl (false ^^ o.isSome)) H2) := by
  have h := pc_din hu hi ho
  unfold tDIn at h
  simpa using h
theorem pc_dnotin' {i o : Expr} {ty td : TE} (hu : X.A.units + 1 < cLine) (hi : PE X i ty) (ho : PE X o td) : PC X .NotIn i o (fun σ H Q => ty σ H fun y H1 => td σ H1 fun x H2 => ∃ a o, x = .ref a ∧ DGet H2 a y o ∧ Q (.bl (true ^^ o.isSome)) H2) := by
  have h := pc_dnotin hu hi ho
  unfold tDNotIn at h
  simpa using h
/-- k in d -/
theorem de_din (hu : X.A.units + 1 < cLine) (hb : DE X B b m2 f) (ha : DE X B a m f') (hm : m.look = true := by rfl) (h1 : behindInMarks .In a = false := by rfl) : DE X B (.Compare b [.In] [a] pos) m1 (fBin (gDIn false) f f') :=
  PE.imp (pe_cmp (pc_din' hu hb ha) h1) fun _ _ _ q => tD_in hm q
theorem de_dnotin (hu : X.A.units + 1 < cLine) (hb : DE X B b m2 f) (ha : DE X B a m f') (hm : m.look = true := by rfl) (h1 : behindInMarks .NotIn a = false := by rfl) : DE X B (.Compare b [.NotIn] [a] pos) m1 (fBin (gDIn true) f f') :=
  PE.imp (pe_cmp (pc_dnotin' hu hb ha) h1) fun _ _ _ q => tD_in hm q
theorem dt_din (hu : X.A.units + 1 < cLine) (hb : DE X B b m2 f) (ha : DE X B a m f') (hm : m.look = true := by rfl) (h1 : behindInMarks .In a = false := by rfl) : DT X B (.Compare b [.In] [a] pos) (fBool (fBin (gDIn false) f f')) :=
  PT.imp (pt_cmp (pc_din' hu hb ha) h1) fun _ _ _ q => tD_in (m1 := .rd) hm (tD_bool q)
theorem dt_dnotin (hu : X.A.units + 1 < cLine) (hb : DE X B b m2 f) (ha : DE X B a m f') (hm : m.look = true := by rfl) (h1 : behindInMarks .NotIn a = false := by rfl) : DT X B (.Compare b [.NotIn] [a] pos) (fBool (fBin (gDIn true) f f')) :=
  PT.imp (pt_cmp (pc_dnotin' hu hb ha) h1) fun _ _ _ q => tD_in (m1 := .rd) hm (tD_bool q)
/-- d.get(k, x): what is found and what stands in its place may be read -/
def gDGet2 (d k x : D) (R : D → Prop) : Prop := ∃ o, lookD d k = some o ∧ R (o.getD x)
def isDctD : D → Prop
  | .dK _ => True
  | .dT _ => True
  | _ => False
theorem isDctD.of {K : PySem.W.Frag} {B f1 : List Addr} {F H : Hp} {v : V} {d : D} (hm : m.look = true) (w : WF B F H) (hv : Val K m B F H v d f1) (h : isDctD d) : ∃ a, v = .ref a ∧ IsD H a ∧ a ∉ B := by
  have nb : ∀ {a : Addr}, (∃ u, rdH B H a = some u) → a ∉ B := fun ⟨u, e⟩ => (rdH_some e).1
  cases d <;> try exact (show False from h).elim
  · have r := hv.rd w (fun a ha => by
      obtain ⟨e, _⟩ := hv.dK hm w
      rw [e] at ha; cases ha)
    obtain ⟨a, kvs, rfl, hr, _⟩ := r.dKI
    exact ⟨a, rfl, .inl ⟨kvs, rd_of_rdH hr⟩, nb ⟨_, hr⟩⟩
  · have r := hv.rd w (fun a ha => by
      obtain ⟨e, _⟩ := hv.dT hm w
      rw [e] at ha; cases ha)
    obtain ⟨a, kvs, rfl, hr, _⟩ := r.dTI
    exact ⟨a, rfl, .inr ⟨kvs, rd_of_rdH hr⟩, nb ⟨_, hr⟩⟩
theorem look_isDct {d k : D} {o : Option D} (h : lookD d k = some o) : isDctD d := by
  cases d <;> first | trivial | (cases h)
theorem de_dget2 (hu : X.A.units + 1 < cLine) (ha : DE X B a m f) (hb : DE X B b .rd f') (hc : DE X B c m.child f'') (hm : m.look = true := by rfl) (hl : ∀ n, m.child ≠ .own (n + 1) := by intro _ z; cases z)
    (M : M2 X a "get" apos b c cpos := by exact ⟨rfl, rfl, rfl, rfl⟩) : DE X B (.Call (.Attribute a "get" apos) [b, c] [] cpos) m.child (fun ρ R => f ρ fun d => isDctD d ∧ f' ρ fun k => f'' ρ fun x => gDGet2 d k x R) :=
  PE.imp (pe_dget2 hu ha hb hc M) fun σ H Q ⟨F, ρ, fp, R, S, hf, k⟩ => by
    refine ⟨F, ρ, fp, _, S, hf, fun F1 H1 v d f1 s1 hv o1 n1 ⟨hd, hg⟩ => ?_⟩
    obtain ⟨a, rfl, hd', haB⟩ := isDctD.of hm s1.wf hv hd
    refine ⟨a, rfl, hd', F1, ρ, fp, _, S.step s1 (fun a ha => by cases ha), hg, fun F2 H2 kv kd f2 s2 hkv o2 n2 hg2 => ?_⟩
    refine ⟨F2, ρ, fp, _, (S.step s1 (fun a ha => by cases ha)).step s2 (fun a ha => by cases ha), hg2, fun F3 H3 xv xd f3 s3 hxv o3 n3 ⟨o, ho, hR⟩ => ?_⟩
    have hv3 := (hv.step s2 fun a ha => (o1 a ha).2.2).step s3 fun a ha => (o1 a ha).2.2
    have hk3 : GK.R X.K (rdH B H3) kv kd := hkv.1.mono (rdH_same s3.same)
    obtain ⟨a', ov, ea, g, _, h⟩ := look_ok (m := m) (mk := .rd) (f2 := []) hm s3.wf hv3 hk3 ho
    cases ea
    have k3 := ((k.after s1 (A1 := []) fun a h => by cases h).after s2 (A1 := []) fun a h => by cases h).after s3 (A1 := f3) fun a ha => (o3 a ha).1
    refine ⟨ov, g, ?_⟩
    rcases h with ⟨q, q'⟩ | ⟨x', y', e1, e2, hy⟩
    · rw [q']
      rw [q] at hR
      exact k3 F3 H3 xv xd f3 (Step.refl s3.wf) hxv (fun a ha => ⟨.inl ha, (o3 a ha).2⟩) n3 hR
    · rw [e2]
      rw [e1] at hR
      exact k3.val s3.wf hy hR
/-- {} -/
theorem de_dnewK (n : Nat) : DE X B (.Dict [] [] pos) (.own (n + 1)) (fun _ R => R (.dK [])) := PE.imp pe_dnewK fun σ H Q ⟨F, ρ, fp, R, S, hf, k⟩ p hp => by
  refine k F _ _ (.dK []) [p] (Step.laid S.wf hp rfl) ⟨p, [], [], rfl, upd_same, rfl, rfl, rfl⟩ (fun a ha => ?_) (by simp) hf
  have e : a = p := by simpa using ha
  subst e
  exact ⟨.inr hp, F_none S.wf hp, S.wf.notB hp⟩
theorem de_dnewT (n : Nat) : DE X B (.Dict [] [] pos) (.own (n + 1)) (fun _ R => R (.dT [])) := PE.imp pe_dnewT fun σ H Q ⟨F, ρ, fp, R, S, hf, k⟩ p hp => by
  refine k F _ _ (.dT []) [p] (Step.laid S.wf hp rfl) ⟨p, [], [], rfl, upd_same, rfl, rfl, rfl⟩ (fun a ha => ?_) (by simp) hf
  have e : a = p := by simpa using ha
  subst e
  exact ⟨.inr hp, F_none S.wf hp, S.wf.notB hp⟩
end
end GK

namespace GK
open PySem PySem.Spec PyProof.Rows L2

/-! ### calls of built-ins -/
section
variable {K : PySem.W.Frag} {m : Mode} {ms : List Mode} {σ : L2.St} {H : Hp}
theorem tD_args {r : List V → Hp → VK → Prop} {g : List D → (D → Prop) → Prop} {fs : FA} {Q : VK} (hr : OpN K r ms m g) (h : tD K B m (fArgs g fs) σ H Q) : tDA K B ms fs σ H fun vs H1 => r vs H1 Q := by
  obtain ⟨F, ρ, fp, R, S, hf, k⟩ := h
  exact ⟨F, ρ, fp, _, S, hf, fun F1 H1 vs ds fp1 s1 hv o1 n1 hg => hr B F1 H1 vs ds fp1 R Q s1.wf hv ⟨fun a ha => (o1 a ha).2, n1⟩ hg (k.after s1 fun a ha => (o1 a ha).1)⟩
end
section
variable {X : Cx} {e : Expr} {es : List Expr} {x : Str} {p pos apos cpos : Pos} {m m1 m2 : Mode} {ms : List Mode} {fs : FA} {f f' : FE} {id T : String} {r : List V → Hp → VK → Prop} {g : List D → (D → Prop) → Prop}
theorem de_B (hc : CallR X (.builtin id) r) (hr : OpN X.K r ms m g) (hg : Gl X x) (hm : X.mg x = none) (hv : bootBuiltins x = some (.builtin id)) (ha : DA X B (e :: es) ms fs) (hn : x ≠ "__name__" := by decide) (hdb : (x == ("__debug__" : Str)) = false := by decide)
    (he : starEach (e :: es) X.env = (false, eval e X.env) :: starEach es X.env := by rfl) (hpl : (backTo pos (starEach es X.env)).any (·.1) = false := by rfl) : DE X B (.Call (.Name x p) (e :: es) [] pos) m (fArgs g fs) :=
  PE.imp (pe_callB hc hg hm hv ha hn hdb he hpl) fun _ _ _ q => tD_args hr q
theorem de_Ty (hc : CallR X (.type T) r) (hr : OpN X.K r ms m g) (hg : Gl X x) (hm : X.mg x = none) (hv : bootBuiltins x = some (.type T)) (ha : DA X B (e :: es) ms fs) (hn : x ≠ "__name__" := by decide) (hdb : (x == ("__debug__" : Str)) = false := by decide)
    (he : starEach (e :: es) X.env = (false, eval e X.env) :: starEach es X.env := by rfl) (hpl : (backTo pos (starEach es X.env)).any (·.1) = false := by rfl) : DE X B (.Call (.Name x p) (e :: es) [] pos) m (fArgs g fs) :=
  PE.imp (pe_callTy hc hg hm hv ha hn hdb he hpl) fun _ _ _ q => tD_args hr q
/-- a built-in method that changes nothing of ours -/
def OpM (K : PySem.W.Frag) (T : String) (r : V → List V → Hp → VK → Prop) (m1 : Mode) (ms : List Mode) (m : Mode) (g0 : D → Prop) (g : D → List D → (D → Prop) → Prop) : Prop :=
  (∀ B F H x d fp, WF B F H → Val K m1 B F H x d fp → Fp B F fp → g0 d → tyV K T x H) ∧
  ∀ B F H x d vs ds fp R Q, WF B F H → (∃ f1 f2, fp = f1 ++ f2 ∧ Val K m1 B F H x d f1 ∧ ValL K B F H ms vs ds f2) → Fp B F fp → g d ds R → Post K B fp F H m R Q → r x vs H Q
theorem tD_meth {K : PySem.W.Frag} {σ : L2.St} {H : Hp} {Q : VK} {r : V → List V → Hp → VK → Prop} {g0 : D → Prop} {g : D → List D → (D → Prop) → Prop} (hr : OpM K T r m1 ms m g0 g) (h : tD K B m (fun ρ R => f ρ fun d => g0 d ∧ fs ρ fun ds => g d ds R) σ H Q) :
    tD K B m1 f σ H fun x H1 => tyV K T x H1 ∧ tDA K B ms fs σ H1 fun xs H2 => r x xs H2 Q := by
  obtain ⟨F, ρ, fp, R, S, hf, k⟩ := h
  refine ⟨F, ρ, fp, _, S, hf, fun F1 H1 v1 d1 fp1 s1 hv1 o1 n1 ⟨h0, hg1⟩ => ⟨hr.1 B F1 H1 v1 d1 fp1 s1.wf hv1 ⟨fun a ha => (o1 a ha).2, n1⟩ h0, ?_⟩⟩
  refine ⟨F1, ρ, fp, _, S.step s1 (fun a ha => by cases ha), hg1, fun F2 H2 v2 d2 fp2 s2 hv2 o2 n2 hg2 => ?_⟩
  have t1 := hv1.there
  have nn : ∀ a ∈ fp1, F2 a = none := fun a ha => by
    obtain ⟨o, e, mu⟩ := t1 a ha
    exact s2.out e mu (o1 a ha).2.2 (o1 a ha).2.1 fun z => by cases z
  refine hr.2 B F2 H2 v1 d1 v2 d2 (fp1 ++ fp2) R Q s2.wf ⟨fp1, fp2, rfl, hv1.step s2 fun a ha => (o1 a ha).2.2, hv2⟩ ⟨fun a ha => ?_, ?_⟩ hg2 ((k.after s1 (A1 := fp1) fun a ha => (o1 a ha).1).after (s2.weak fun a ha => by cases ha) fun a ha => ?_)
  · rcases List.mem_append.mp ha with z | z
    · exact ⟨nn a z, (o1 a z).2.2⟩
    · exact (o2 a z).2
  · refine List.nodup_append.mpr ⟨n1, n2, fun a ha b hb e => ?_⟩
    subst e
    obtain ⟨o, e, mu⟩ := t1 a ha
    rcases (o2 a hb).1 with z | z
    · cases z
    · rw [e] at z; cases z
  · rcases List.mem_append.mp ha with z | z
    · exact .inl z
    · exact .inr ((o2 a z).1.elim (fun z => by cases z) id)
theorem de_M {o : Expr} {name : Str} {r : V → List V → Hp → VK → Prop} {g0 : D → Prop} {g : D → List D → (D → Prop) → Prop} (pa : PlainAttrs T) (slot : Slot T name id) (hty : typeOf (.builtin id) = pure (.type "method_descriptor")) (hm : MtR X id r) (hr : OpM X.K T r m1 ms m g0 g)
    (ho : DE X B o m1 f) (ha : DA X B (e :: es) ms fs) (hb : BmOk X o name apos e es cpos := by exact ⟨rfl, rfl, rfl, rfl, rfl⟩) : DE X B (.Call (.Attribute o name apos) (e :: es) [] cpos) m (fun ρ R => f ρ fun d => g0 d ∧ fs ρ fun ds => g d ds R) :=
  PE.imp (pe_bm pa slot hty hm ho ha hb.1 hb.2 hb.3 hb.4 hb.5) fun _ _ _ q => tD_meth hr q
end
/-! ### len, int, max, min -/
def gLen : List D → (D → Prop) → Prop
  | [.lst ds], R => R (.int ds.length)
  | [.tup ds], R => R (.int ds.length)
  | [.str s], R => s.length ≤ sizeLine ∧ R (.int s.length)
  | [.dK es], R => R (.int es.length)
  | _, _ => False
def gInt : List D → (D → Prop) → Prop
  | [.int i], R => R (.int i)
  | _, _ => False
def gMax2 : List D → (D → Prop) → Prop
  | [.int i, .int j], R => R (.int (if j > i then j else i))
  | _, _ => False
def gMin2 : List D → (D → Prop) → Prop
  | [.int i, .int j], R => R (.int (if j < i then j else i))
  | _, _ => False
theorem ValL.one {K : PySem.W.Frag} {B fp : List Addr} {F H : Hp} {m : Mode} {vs : List V} {d : D} (h : ValL K B F H [m] vs [d] fp) : ∃ v, vs = [v] ∧ Val K m B F H v d fp := by
  cases vs with
  | nil => cases h
  | cons v r =>
    cases r with
    | nil =>
      obtain ⟨f1, f2, e, h1, h2⟩ := h
      have e2 : f2 = [] := h2
      subst e2
      rw [List.append_nil] at e
      subst e
      exact ⟨v, rfl, h1⟩
    | cons w r => obtain ⟨f1, f2, e, h1, h2⟩ := h; cases h2
theorem ValL.two {K : PySem.W.Frag} {B fp : List Addr} {F H : Hp} {m m' : Mode} {vs : List V} {d d' : D} (h : ValL K B F H [m, m'] vs [d, d'] fp) : ∃ v v' f f', vs = [v, v'] ∧ Val K m B F H v d f ∧ Val K m' B F H v' d' f' ∧ fp = f ++ f' := by
  cases vs with
  | nil => cases h
  | cons v r =>
    obtain ⟨f1, f2, e, h1, h2⟩ := h
    obtain ⟨v', rfl, h3⟩ := ValL.one h2
    exact ⟨v, v', f1, f2, rfl, h1, h3, e⟩
section
variable {X : Cx} {e e2 : Expr} {x : Str} {p pos apos cpos : Pos} {m m1 m2 : Mode} {fs : FA} {f f' : FE}
theorem call_lenK : CallR X (.builtin "len") (fun xs H Q => ∃ a kvs, xs = [.ref a] ∧ Rd H a (.dK kvs) ∧ Q (.int kvs.length) H) := by
  intro pins s σ H xs us Q I r h
  obtain ⟨a, kvs, rfl, h, q⟩ := h
  obtain ⟨u, rfl, rx⟩ := r.one
  obtain rfl : u = Value.ref a := rx
  exact d_len I h fun t s' I' => ⟨.int _, H, I', ⟨_, rfl⟩, q⟩
theorem call_len' : CallR X (.builtin "len") (fun xs H Q => (∃ p ys, xs = [.ref p] ∧ (SqL X.K H p ys ∨ SqT X.K H p ys) ∧ Q (.int ys.length) H) ∨ (∃ z, xs = [.str z] ∧ z.length ≤ sizeLine ∧ Q (.int z.length) H) ∨ ∃ a kvs, xs = [.ref a] ∧ Rd H a (.dK kvs) ∧ Q (.int kvs.length) H) :=
  call_len_seq.or (call_len_str.or call_lenK)
theorem opN_len {K : PySem.W.Frag} (hm : m1.look = true) : OpN K (fun xs H Q => (∃ p ys, xs = [.ref p] ∧ (SqL K H p ys ∨ SqT K H p ys) ∧ Q (.int ys.length) H) ∨ (∃ z, xs = [.str z] ∧ z.length ≤ sizeLine ∧ Q (.int z.length) H) ∨ ∃ a kvs, xs = [.ref a] ∧ Rd H a (.dK kvs) ∧ Q (.int kvs.length) H) [m1] m gLen := by
  intro B F H vs ds fp R Q w hv hf hg k
  unfold gLen at hg
  split at hg
  · obtain ⟨v, rfl, h⟩ := hv.one
    obtain ⟨_, a, ws, rfl, hs, it⟩ := h.lst hm w
    exact .inl ⟨a, ws, rfl, .inl hs, by rw [it.1]; exact k.int w hg⟩
  · obtain ⟨v, rfl, h⟩ := hv.one
    obtain ⟨_, a, ws, rfl, hs, it⟩ := h.tup hm w
    exact .inl ⟨a, ws, rfl, .inr hs, by rw [it.1]; exact k.int w hg⟩
  · obtain ⟨v, rfl, h⟩ := hv.one
    obtain ⟨rfl, _⟩ := h.str
    exact .inr (.inl ⟨_, rfl, hg.1, k.int w hg.2⟩)
  · obtain ⟨v, rfl, h⟩ := hv.one
    obtain ⟨_, a, kvs, rfl, hr, hk, it⟩ := h.dK hm w
    have hlen := congrArg List.length hk
    rw [List.length_map, List.length_map] at hlen
    exact .inr (.inr ⟨a, kvs, rfl, hr, by rw [hlen]; exact k.int w hg⟩)
  · exact hg.elim
theorem opN_int {K : PySem.W.Frag} : OpN K (fun xs H Q => (∃ i, xs = [.int i] ∧ Q (.int i) H) ∨ ∃ k, xs = [.bl k] ∧ Q (.int (if k then 1 else 0)) H) [m1] m gInt := by
  intro B F H vs ds fp R Q w hv hf hg k
  unfold gInt at hg
  split at hg
  · obtain ⟨v, rfl, h⟩ := hv.one
    obtain ⟨rfl, _⟩ := h.int
    exact .inl ⟨_, rfl, k.int w hg⟩
  · exact hg.elim
theorem opN_max2 {K : PySem.W.Frag} : OpN K (fun xs H Q => ∃ i j, xs = [.int i, .int j] ∧ Q (.int (if j > i then j else i)) H) [m1, m2] m gMax2 := by
  intro B F H vs ds fp R Q w hv hf hg k
  unfold gMax2 at hg
  split at hg
  · obtain ⟨v, v', f, f', rfl, h, h', _⟩ := hv.two
    obtain ⟨rfl, _⟩ := h.int
    obtain ⟨rfl, _⟩ := h'.int
    exact ⟨_, _, rfl, k.int w hg⟩
  · exact hg.elim
theorem opN_min2 {K : PySem.W.Frag} : OpN K (fun xs H Q => ∃ i j, xs = [.int i, .int j] ∧ Q (.int (if j < i then j else i)) H) [m1, m2] m gMin2 := by
  intro B F H vs ds fp R Q w hv hf hg k
  unfold gMin2 at hg
  split at hg
  · obtain ⟨v, v', f, f', rfl, h, h', _⟩ := hv.two
    obtain ⟨rfl, _⟩ := h.int
    obtain ⟨rfl, _⟩ := h'.int
    exact ⟨_, _, rfl, k.int w hg⟩
  · exact hg.elim
theorem de_len (hz : X.mg "len" = none) (ha : DE X B e m1 f) (hm : m1.look = true := by rfl) (hg : Gl X "len" := by rfl) (he : starEach [e] X.env = (false, eval e X.env) :: starEach [] X.env := by rfl) (hpl : (backTo pos (starEach [] X.env)).any (·.1) = false := by rfl) :
    DE X B (.Call (.Name "len" p) [e] [] pos) m (fArgs gLen (fCons f fNil)) := de_B call_len' (opN_len hm) hg hz PySem.boot_len (da_cons ha da_nil he) (by decide) (by decide) he hpl
theorem de_int' (hz : X.mg "int" = none) (ha : DE X B e m1 f) (hg : Gl X "int" := by rfl) (he : starEach [e] X.env = (false, eval e X.env) :: starEach [] X.env := by rfl) (hpl : (backTo pos (starEach [] X.env)).any (·.1) = false := by rfl) :
    DE X B (.Call (.Name "int" p) [e] [] pos) m (fArgs gInt (fCons f fNil)) := de_Ty call_int1 opN_int hg hz (by decide +kernel) (da_cons ha da_nil he) (by decide) (by decide) he hpl
theorem de_max2 (hc : X.calm = true) (hz : X.mg "max" = none) (ha : DE X B e m1 f) (hb : DE X B e2 m2 f') (hg : Gl X "max" := by rfl) (he : starEach [e, e2] X.env = (false, eval e X.env) :: starEach [e2] X.env := by rfl) (he2 : starEach [e2] X.env = (false, eval e2 X.env) :: starEach [] X.env := by rfl) (hpl : (backTo pos (starEach [e2] X.env)).any (·.1) = false := by rfl) :
    DE X B (.Call (.Name "max" p) [e, e2] [] pos) m (fArgs gMax2 (fCons f (fCons f' fNil))) := de_B (call_max2 hc) opN_max2 hg hz (by decide +kernel) (da_cons ha (da_cons hb da_nil he2) he) (by decide) (by decide) he hpl
theorem de_min2 (hc : X.calm = true) (hz : X.mg "min" = none) (ha : DE X B e m1 f) (hb : DE X B e2 m2 f') (hg : Gl X "min" := by rfl) (he : starEach [e, e2] X.env = (false, eval e X.env) :: starEach [e2] X.env := by rfl) (he2 : starEach [e2] X.env = (false, eval e2 X.env) :: starEach [] X.env := by rfl) (hpl : (backTo pos (starEach [e2] X.env)).any (·.1) = false := by rfl) :
    DE X B (.Call (.Name "min" p) [e, e2] [] pos) m (fArgs gMin2 (fCons f (fCons f' fNil))) := de_B (call_min2 hc) opN_min2 hg hz (by decide +kernel) (da_cons ha (da_cons hb da_nil he2) he) (by decide) (by decide) he hpl
end

/-! ### lists whose items may be read, and new ones -/
/-- the items of a list may be read -/
def Mode.flat1 : Mode → Bool
  | .own 0 => true
  | .bor 0 => true
  | .bor 1 => true
  | _ => false
theorem Val.lstRL {K : PySem.W.Frag} {B fp : List Addr} {F H : Hp} {m : Mode} {v : V} {ds : List D} (hm : m.flat1 = true) (w : WF B F H) (h : Val K m B F H v (.lst ds) fp) : ∃ a vs, v = .ref a ∧ H a = some (.lst vs) ∧ RL K F vs ds := by
  cases m with
  | rd => cases hm
  | own n =>
    cases n with
    | zero =>
      obtain ⟨a, vs, e, h1, r⟩ := h.1.lstI
      exact ⟨a, vs, e, lst_of w (w.sub _ _ h1), r⟩
    | succ n => cases hm
  | bor n =>
    obtain ⟨⟨f, h, hf⟩, e0⟩ := h
    cases n with
    | zero =>
      obtain ⟨a, vs, e, h1, r⟩ := h.1.lstI
      exact ⟨a, vs, e, lst_of w (w.sub _ _ h1), r⟩
    | succ n =>
      cases n with
      | zero =>
        obtain ⟨a, vs, g, e, h1, ef, t⟩ := h
        exact ⟨a, vs, e, h1, t.toRL0⟩
      | succ n => cases hm
def gCat : D → D → (D → Prop) → Prop
  | .lst xs, .lst ys, R => xs.length + ys.length ≤ sizeLine ∧ R (.lst (xs ++ ys))
  | _, _, _ => False
def gRep : D → D → (D → Prop) → Prop
  | .lst xs, .int k, R => -(2 ^ 63) ≤ k ∧ k < 2 ^ 63 ∧ xs.length * k.toNat ≤ sizeLine ∧ R (.lst (List.replicate k.toNat xs).flatten)
  | _, _, _ => False
theorem RL.rep {K : PySem.W.Frag} {F : Hp} {vs : List V} {ds : List D} (h : RL K F vs ds) : ∀ n : Nat, RL K F (List.replicate n vs).flatten (List.replicate n ds).flatten
  | 0 => .nil
  | n + 1 => by
    rw [List.replicate_succ, List.replicate_succ, List.flatten_cons, List.flatten_cons]
    exact h.append (RL.rep h n)
section
variable {X : Cx} {a b : Expr} {pos : Pos} {m m1 m2 : Mode} {f f' : FE}
/-- xs + ys -/
theorem de_cat (ha : DE X B a m1 f) (hb : DE X B b m2 f') (h1 : m1.flat1 = true := by rfl) (h2 : m2.flat1 = true := by rfl) : DE X B (.BinOp a .Add b pos) (.own 1) (fBin gCat f f') := de_op op_cat (by
  intro B F H x y d e fp R Q w ⟨f1, f2, ef, hx, hy⟩ _ hg k
  cases d <;> cases e <;> try exact (show False from hg).elim
  obtain ⟨p, vs, rfl, hp, r⟩ := hx.lstRL h1 w
  obtain ⟨q, ws, rfl, hq, t⟩ := hy.lstRL h2 w
  exact ⟨p, q, vs, ws, rfl, rfl, hp, hq, by rw [r.length, t.length]; exact hg.1, fun z hz => k.newLst0 w (r.append t) hg.2 hz⟩) ha hb
/-- xs * n -/
theorem de_rep (ha : DE X B a m1 f) (hb : DE X B b m2 f') (h1 : m1.flat1 = true := by rfl) : DE X B (.BinOp a .Mult b pos) (.own 1) (fBin gRep f f') := de_op op_rep (by
  intro B F H x y d e fp R Q w ⟨f1, f2, ef, hx, hy⟩ _ hg k
  cases d <;> cases e <;> try exact (show False from hg).elim
  obtain ⟨p, vs, rfl, hp, r⟩ := hx.lstRL h1 w
  obtain ⟨rfl, _⟩ := hy.int
  exact ⟨p, _, vs, rfl, rfl, hp, hg.1, hg.2.1, by rw [r.length]; exact hg.2.2.1, fun z hz => k.newLst0 w (r.rep _) hg.2.2.2 hz⟩) ha hb
end
/-! slices -/
abbrev FO := Env → (Option Int → Prop) → Prop
def tDO (K : PySem.W.Frag) (B : List Addr) (f : FO) : TO := fun σ H Q => ∃ F ρ fp R, StOk K B [] noH noH F H σ ρ fp ∧ f ρ R ∧ ∀ F' H' o, Step B [] F H F' H' → R o → Q o H'
abbrev DO (X : Cx) (B : List Addr) (e : Option Expr) (f : FO) : Prop := PO X e (tDO X.K B f)
theorem PO.imp {X : Cx} {e : Option Expr} {t t' : TO} (h : PO X e t) (k : ∀ σ H Q, t' σ H Q → t σ H Q) : PO X e t' := ⟨fun pins s σ H Q I q => h.run pins s σ H Q I (k σ H Q q)⟩
def cutD (xs : List D) (lo hi : Option Int) : List D := (xs.drop (HT.sIx xs.length 0 lo)).take (HT.sIx xs.length xs.length hi - HT.sIx xs.length 0 lo)
def iOf (R : Option Int → Prop) : D → Prop
  | .int i => R (some i)
  | _ => False
section
variable {X : Cx} {e : Expr} {lo hi : Option Expr} {pos p2 : Pos} {m m1 : Mode} {f : FE} {fl fh : FO}
theorem do_none : DO X B none (fun _ R => R none) := PO.imp po_none fun σ H Q ⟨F, ρ, fp, R, S, hf, k⟩ => k F H none (Step.refl S.wf) hf
theorem do_some (h : DE X B e m f) : DO X B (some e) (fun ρ R => f ρ (iOf R)) := PO.imp (po_some h) fun σ H Q ⟨F, ρ, fp, R, S, hf, k⟩ => ⟨F, ρ, fp, _, S, hf, fun F' H' v d f' s hv ho hn hR => by
  cases d <;> try exact (show False from hR).elim
  obtain ⟨rfl, _⟩ := hv.int
  exact ⟨_, rfl, k F' H' _ s hR⟩⟩
def gSlL (d : D) (lo hi : Option Int) (R : D → Prop) : Prop := match d with
  | .lst xs => R (.lst (cutD xs lo hi))
  | _ => False
def gSlT (d : D) (lo hi : Option Int) (R : D → Prop) : Prop := match d with
  | .tup xs => R (.tup (cutD xs lo hi))
  | _ => False
def gSlS (d : D) (lo hi : Option Int) (R : D → Prop) : Prop := match d with
  | .str z => z.length ≤ sizeLine ∧ R (.str (cutS z lo hi))
  | _ => False
theorem cut_rl {K : PySem.W.Frag} {F : Hp} {vs : List V} {ds : List D} (h : RL K F vs ds) (lo hi : Option Int) : RL K F (cutV vs lo hi) (cutD ds lo hi) := by
  unfold cutV cutD
  rw [h.length]
  exact (h.drop _).take _
theorem tD_slice {K : PySem.W.Frag} {σ : L2.St} {H : Hp} {Q : VK} {r : V → Option Int → Option Int → Hp → VK → Prop} {g : D → Option Int → Option Int → (D → Prop) → Prop}
    (hr : ∀ B F H x d fp lo hi R Q, WF B F H → Val K m1 B F H x d fp → Fp B F fp → g d lo hi R → Post K B fp F H m R Q → r x lo hi H Q)
    (h : tD K B m (fun ρ R => f ρ fun d => fl ρ fun lo => fh ρ fun hi => g d lo hi R) σ H Q) : tD K B m1 f σ H fun x H1 => tDO K B fl σ H1 fun l H2 => tDO K B fh σ H2 fun u H3 => r x l u H3 Q := by
  obtain ⟨F, ρ, fp, R, S, hf, k⟩ := h
  refine ⟨F, ρ, fp, _, S, hf, fun F1 H1 v d fp1 s1 hv o1 n1 hg => ?_⟩
  refine ⟨F1, ρ, fp, _, S.step s1 (fun a ha => by cases ha), hg, fun F2 H2 lo s2 hg2 => ?_⟩
  refine ⟨F2, ρ, fp, _, (S.step s1 (fun a ha => by cases ha)).step s2 (fun a ha => by cases ha), hg2, fun F3 H3 hi s3 hg3 => ?_⟩
  have t1 := hv.there
  have s23 := s2.trans s3 fun a ha => by cases ha
  refine hr B F3 H3 v d fp1 lo hi R Q s3.wf (hv.step s23 fun a ha => (o1 a ha).2.2) ⟨fun a ha => ?_, n1⟩ hg3 ((k.after s1 (A1 := fp1) fun a ha => (o1 a ha).1).after (s23.weak fun a ha => by cases ha) fun a ha => .inl ha)
  obtain ⟨o, e, mu⟩ := t1 a ha
  exact ⟨s23.out e mu (o1 a ha).2.2 (o1 a ha).2.1 (fun z => (by cases z)), (o1 a ha).2.2⟩
/-- xs[lo:hi] -/
theorem de_slL (he : DE X B e m1 f) (hl : DO X B lo fl) (hh : DO X B hi fh) (h1 : m1.flat1 = true := by rfl) : DE X B (.Subscript e (.Slice lo hi none p2) pos) (.own 1) (fun ρ R => f ρ fun d => fl ρ fun lo => fh ρ fun hi => gSlL d lo hi R) :=
  PE.imp (pe_slice sl_list he hl hh) fun _ _ _ q => tD_slice (m := .own 1) (r := rSlL X.K) (g := gSlL) (by
    intro B F H x d fp lo hi R Q w hv hf hg k
    cases d <;> try exact (show False from hg).elim
    obtain ⟨p, vs, rfl, hp, r⟩ := hv.lstRL h1 w
    exact ⟨p, vs, rfl, SqL.of hp, fun z hz => k.newLst0 w (cut_rl r lo hi) hg hz⟩) q
theorem de_slS (he : DE X B e m1 f) (hl : DO X B lo fl) (hh : DO X B hi fh) : DE X B (.Subscript e (.Slice lo hi none p2) pos) m (fun ρ R => f ρ fun d => fl ρ fun lo => fh ρ fun hi => gSlS d lo hi R) :=
  PE.imp (pe_slice sl_str he hl hh) fun _ _ _ q => tD_slice (m := m) (r := rSlS) (g := gSlS) (by
    intro B F H x d fp lo hi R Q w hv hf hg k
    cases d <;> try exact (show False from hg).elim
    obtain ⟨rfl, _⟩ := hv.str
    exact ⟨_, rfl, hg.1, k.str w hg.2⟩) q
end
end GK

namespace GK
open PySem PySem.Spec PyProof.Rows L2

/-! ### targets -/
def tgN (i : Nat) : D → Env → Option Env := fun d ρ => if i < ρ.length then some (ρ.set i (some (0, d))) else none
def tgL : List Nat → List D → Env → Option Env
  | [], [], ρ => some ρ
  | i :: is, d :: ds, ρ => if i < ρ.length then tgL is ds (ρ.set i (some (0, d))) else none
  | _, _, _ => none
def tgT (is : List Nat) : D → Env → Option Env := fun d ρ => match d with
  | .tup ds => tgL is ds ρ
  | _ => none
section
variable {X : Cx} {pin i : Nat} {x : Str} {pos : Pos}
theorem dg_name (i : Nat) (hN : X.N.Nodup) (hi : X.N[i]? = some x) (hx : Loc X.env.scope x) (hp : pin ≤ i) (hf : X.fn x = true ∨ X.env.scope.names.lookup x = some .local := by first | exact .inl rfl | exact .inr rfl | assumption) : DG X pin (.Name x pos) (tgN i) :=
  ⟨gName i, pg_name hN hi hx hf, fun B Pn Z0 F0 F H σ ρ ρ' fp v d hpl S r e Q k => by
    unfold tgN at e
    split at e
    · rename_i hi'
      cases e
      obtain ⟨fp', S'⟩ := S.set (n := 0) (f := []) (i := i) ⟨r, rfl⟩ .nil hi' (by omega)
      exact k _ fp' S'
    · cases e⟩
/-- several -/
structure DGs (X : Cx) (pin : Nat) (ts : List Expr) (is : List Nat) : Prop where
  ok : ∃ g : TGs, PGs X ts g ∧ ∀ (B : List Addr) (Pn : List V) (Z0 F0 F H : Hp) (σ : L2.St) (ρ ρ' : Env) (fp : List Addr) (vs : List V) (ds : List D), Pn.length = pin → StOk X.K B Pn Z0 F0 F H σ ρ fp → RL X.K F vs ds → tgL is ds ρ = some ρ' →
    ∀ Q : L2.St → Hp → Prop, (∀ σ' fp', StOk X.K B Pn Z0 F0 F H σ' ρ' fp' → Q σ' H) → g vs σ H Q
theorem dgs_nil : DGs X pin [] [] := ⟨gNil, pgs_nil, fun B Pn Z0 F0 F H σ ρ ρ' fp vs ds hpl S r e Q k => by
  cases r with
  | nil => cases e; exact ⟨rfl, k σ fp S⟩
  | cons h t => cases e⟩
theorem dgs_cons {is : List Nat} {es : List Expr} (i : Nat) (hN : X.N.Nodup) (hi : X.N[i]? = some x) (hx : Loc X.env.scope x) (hp : pin ≤ i) (h : DGs X pin es is) (hf : X.fn x = true ∨ X.env.scope.names.lookup x = some .local := by first | exact .inl rfl | exact .inr rfl | assumption)
    (hs : (assignEach (.Name x pos :: es) X.env).map (·.2) = assign (.Name x pos) X.env :: (assignEach es X.env).map (·.2) := by rfl) : DGs X pin (.Name x pos :: es) (i :: is) := by
  obtain ⟨g, pg, kg⟩ := h.ok
  refine ⟨_, pgs_cons (pg_name hN hi hx hf) pg hs, fun B Pn Z0 F0 F H σ ρ ρ' fp vs ds hpl S r e Q k => ?_⟩
  cases r with
  | nil => cases e
  | cons h t =>
    unfold tgL at e
    split at e
    · rename_i hi'
      obtain ⟨fp', S'⟩ := S.set (n := 0) (f := []) (i := i) ⟨h, rfl⟩ .nil hi' (by omega)
      exact ⟨_, _, rfl, kg B Pn Z0 F0 F H _ _ ρ' fp' _ _ hpl S' t e Q k⟩
    · cases e
theorem tgL_len : ∀ {is : List Nat} {ds : List D} {ρ ρ' : Env}, tgL is ds ρ = some ρ' → ds.length = is.length
  | [], [], _, _, _ => rfl
  | i :: is, d :: ds, ρ, ρ', e => by
    unfold tgL at e
    split at e
    · rw [List.length_cons, List.length_cons, tgL_len e]
    · cases e
  | [], _ :: _, _, _, e => by cases e
  | _ :: _, [], _, _, e => by cases e
theorem dg_tup {is : List Nat} {es : List Expr} {k : Nat} (hc : X.calm = true) (h : DGs X pin es is) (hn : (assignEach es X.env).length = is.length := by rfl) (hst : (assignEach es X.env).findIdx? (·.1) = none := by rfl) : DG X pin (.Tuple es k pos) (tgT is) := by
  obtain ⟨g, pg, kg⟩ := h.ok
  refine ⟨_, pg_tup hc pg hn hst, fun B Pn Z0 F0 F H σ ρ ρ' fp v d hpl S r e Q k => ?_⟩
  unfold tgT at e
  cases d <;> try (cases e; done)
  obtain ⟨a, vs, rfl, ht, rl⟩ := r.tupI
  exact ⟨a, vs, rfl, tup_sub S.wf ht, by rw [rl.length]; exact tgL_len e, kg B Pn Z0 F0 F H σ ρ ρ' fp vs _ hpl S rl e Q k⟩
end

/-! ### what is walked -/
def xsOf (R : List D → Prop) : D → Prop
  | .lst xs => R xs
  | _ => False
def tsOf (R : List D → Prop) : D → Prop
  | .tup xs => R xs
  | _ => False
def seqOf (R : List D → Prop) : D → Prop
  | .lst xs => R xs
  | .tup xs => R xs
  | _ => False
section
variable {K : PySem.W.Frag} {B fp : List Addr} {F F1 H H1 : Hp}
theorem protF {F1 H1 : Hp} (hF : ∀ a ∈ fp, F1 a = none) (w : WF B F1 H1) {a : Addr} {u : HO} (h : F1 a = some u) : ∃ x, prot B fp H1 a = some x ∧ erO x = u := by
  obtain ⟨hb, x, e, n⟩ := rdH_some (w.sub a u h)
  refine ⟨x, ?_, n⟩
  rw [prot_out (fun hf => ?_) hb]
  · exact e
  · rw [hF a hf] at h; cases h
theorem itD_list {a : Addr} {vs : List V} {xs : List D} (hF : ∀ a ∈ fp, F1 a = none) (w : WF B F1 H1) (h : F1 a = some (.lst vs)) (r : RL K F1 vs xs) : ItD K B (prot B fp H1) F1 (Itl K a) xs := by
  intro i F H w' sz sf
  obtain ⟨x, ex, er⟩ := protF hF w h
  have hs : SqL K H a vs := .inl (rd_of_er (sz a x ex) er)
  have rl := r.mono sf
  refine ⟨fun hi => ?_, fun hi => ⟨vs, hs, by rw [r.length]; exact hi⟩⟩
  have hi' : i < vs.length := by rw [r.length]; exact hi
  refine ⟨⟨vs, vs[i], hs, by simp [hi']⟩, fun y H' ⟨e, hy⟩ => ?_⟩
  subst e
  obtain ⟨d, ed, rd⟩ := rl.getV (hy vs hs)
  exact ⟨F, d, ed, Step.refl w', rd⟩
theorem itD_tup {a : Addr} {vs : List V} {xs : List D} (hF : ∀ a ∈ fp, F1 a = none) (w : WF B F1 H1) (h : F1 a = some (.tup vs)) (r : RL K F1 vs xs) : ItD K B (prot B fp H1) F1 (Itt K a) xs := by
  intro i F H w' sz sf
  obtain ⟨x, ex, er⟩ := protF hF w h
  have hs : SqT K H a vs := .inl (rd_of_er (sz a x ex) er)
  have rl := r.mono sf
  refine ⟨fun hi => ?_, fun hi => ⟨vs, hs, by rw [r.length]; exact hi⟩⟩
  have hi' : i < vs.length := by rw [r.length]; exact hi
  refine ⟨⟨vs, vs[i], hs, by simp [hi']⟩, fun y H' ⟨e, hy⟩ => ?_⟩
  subst e
  obtain ⟨d, ed, rd⟩ := rl.getV (hy vs hs)
  exact ⟨F, d, ed, Step.refl w', rd⟩
/-- 0, 1, .. -/
def rangeD (lo : Int) (n : Nat) : List D := (List.range n).map fun i : Nat => D.int (lo + (i : Int))
theorem itD_rng {Z : Hp} {lo : Int} {n : Nat} : ItD K B Z F1 (Itr lo n) (rangeD lo n) := by
  intro i F H w' sz sf
  unfold rangeD
  rw [List.length_map, List.length_range]
  refine ⟨fun hi => ⟨hi, fun y H' ⟨e, hy⟩ => ?_⟩, fun hi => hi⟩
  subst e
  subst hy
  exact ⟨F, .int (lo + i), by simp [hi], Step.refl w', .int _⟩
end
section
variable {X : Cx} {tg e e2 : Expr} {pos p : Pos} {m m2 : Mode} {f f' : FE}
theorem outF {K : PySem.W.Frag} {B fp : List Addr} {Pn : List V} {Z0 F0 F H : Hp} {σ : L2.St} {ρ : Env} (S : StOk K B Pn Z0 F0 F H σ ρ fp) : ∀ a ∈ fp, F a = none := fun a ha => (S.out a ha).1
theorem di_list (h : DE X B e (.own 0) f) : DI X B tg e (fun ρ R => f ρ (xsOf R)) := PI.imp (pi_list h) fun σ H R ⟨F, ρ, fp, Rx, S, hf, k⟩ => ⟨F, ρ, fp, _, S, hf, fun F1 H1 v d f1 s1 hv o1 n1 hR => by
  cases d <;> try exact (show False from hR).elim
  obtain ⟨a, vs, rfl, h1, r⟩ := hv.1.lstI
  exact ⟨a, rfl, ⟨vs, lst_sub s1.wf h1⟩, k _ F1 H1 _ s1 (itD_list (outF (S.step s1 fun a h => by cases h)) s1.wf h1 r) hR⟩⟩
theorem di_tup (h : DE X B e (.own 0) f) : DI X B tg e (fun ρ R => f ρ (tsOf R)) := PI.imp (pi_tup h) fun σ H R ⟨F, ρ, fp, Rx, S, hf, k⟩ => ⟨F, ρ, fp, _, S, hf, fun F1 H1 v d f1 s1 hv o1 n1 hR => by
  cases d <;> try exact (show False from hR).elim
  obtain ⟨a, vs, rfl, h1, r⟩ := hv.1.tupI
  exact ⟨a, rfl, ⟨vs, tup_sub s1.wf h1⟩, k _ F1 H1 _ s1 (itD_tup (outF (S.step s1 fun a h => by cases h)) s1.wf h1 r) hR⟩⟩
def rng1 (R : List D → Prop) : D → Prop
  | .int n => -(2 ^ 62) ≤ n ∧ n < 2 ^ 62 ∧ R (rangeD 0 n.toNat)
  | _ => False
def rng2 (R : List D → Prop) : D → D → Prop
  | .int i, .int j => (-(2 ^ 62) ≤ i ∧ i < 2 ^ 62 ∧ -(2 ^ 62) ≤ j ∧ j < 2 ^ 62) ∧ R (rangeD i (j - i).toNat)
  | _, _ => False
theorem di_range (hz : X.mg "range" = none) (h : DE X B e m f) (hg : Gl X "range" := by rfl) (hs : starEach [e] X.env = [(false, eval e X.env)] := by rfl) (hs' : starEach [e] X.env = (false, eval e X.env) :: starEach [] X.env := by rfl) : DI X B tg (.Call (.Name "range" p) [e] [] pos) (fun ρ R => f ρ (rng1 R)) :=
  PI.imp (pi_range1 hg hz (da_cons h da_nil hs') hs) fun σ H R ⟨F, ρ, fp, Rx, S, hf, k⟩ => ⟨F, ρ, fp, fun ds => ∃ d, ds = [d] ∧ rng1 Rx d, S, by
    show f ρ fun x => ∃ d, [x] = [d] ∧ rng1 Rx d
    have : (fun x => ∃ d, [x] = [d] ∧ rng1 Rx d) = rng1 Rx := by
      funext x
      exact propext ⟨fun ⟨d, e, h⟩ => by cases e; exact h, fun h => ⟨x, rfl, h⟩⟩
    rw [this]; exact hf, fun F1 H1 vs ds f1 s1 hv o1 n1 ⟨d, ed, hR⟩ => by
    subst ed
    obtain ⟨v, rfl, h1⟩ := hv.one
    cases d <;> try exact (show False from hR).elim
    obtain ⟨rfl, _⟩ := h1.int
    exact ⟨_, rfl, hR.1, hR.2.1, k _ F1 H1 _ s1 itD_rng hR.2.2⟩⟩
theorem di_range2 (hz : X.mg "range" = none) (h : DE X B e m f) (h' : DE X B e2 m2 f') (hg : Gl X "range" := by rfl) (hs : starEach [e, e2] X.env = [(false, eval e X.env), (false, eval e2 X.env)] := by rfl) (hs2 : starEach [e2] X.env = [(false, eval e2 X.env)] := by rfl)
    (hs' : starEach [e, e2] X.env = (false, eval e X.env) :: starEach [e2] X.env := by rfl) (hs2' : starEach [e2] X.env = (false, eval e2 X.env) :: starEach [] X.env := by rfl) : DI X B tg (.Call (.Name "range" p) [e, e2] [] pos) (fun ρ R => f ρ fun x => f' ρ fun y => rng2 R x y) :=
  PI.imp (pi_range2 hg hz (da_cons h (da_cons h' da_nil hs2') hs') hs hs2) fun σ H R ⟨F, ρ, fp, Rx, S, hf, k⟩ => ⟨F, ρ, fp, fun ds => ∃ d d', ds = [d, d'] ∧ rng2 Rx d d', S, by
    show f ρ fun x => f' ρ fun y => ∃ d d', [x, y] = [d, d'] ∧ rng2 Rx d d'
    have : (fun x => f' ρ fun y => ∃ d d', [x, y] = [d, d'] ∧ rng2 Rx d d') = fun x => f' ρ fun y => rng2 Rx x y := by
      funext x
      congr 1
      funext y
      exact propext ⟨fun ⟨d, d', e, h⟩ => by cases e; exact h, fun h => ⟨x, y, rfl, h⟩⟩
    rw [this]; exact hf, fun F1 H1 vs ds f1 s1 hv o1 n1 ⟨d, d', ed, hR⟩ => by
    subst ed
    obtain ⟨v, v', g, g', rfl, h1, h2, _⟩ := hv.two
    cases d <;> cases d' <;> try exact (show False from hR).elim
    obtain ⟨rfl, _⟩ := h1.int
    obtain ⟨rfl, _⟩ := h2.int
    exact ⟨_, _, rfl, hR.1, k _ F1 H1 _ s1 itD_rng hR.2⟩⟩
end
end GK

namespace GK
open PySem PySem.Spec PyProof.Rows L2

/-! ### a for over a dict: it is locked meanwhile -/
section
variable {X : Cx} {st : Stmt} {e : Expr} {t : TS} {te : TE}
def unlQ (X : Cx) (Q : VK) : VK := fun v H => Q v H ∨ ∃ d od u, H d = some (.frz od u) ∧ (∀ o' u', X.H_0 d ≠ some (.frz o' u')) ∧ Q v (upd H d u)
def unlS (X : Cx) (Q : L2.St → Hp → Prop) : L2.St → Hp → Prop := fun σ H => Q σ H ∨ ∃ d od u, H d = some (.frz od u) ∧ (∀ o' u', X.H_0 d ≠ some (.frz o' u')) ∧ Q σ (upd H d u)
def unlEnds (X : Cx) (D : Ends) : Ends := ⟨unlS X D.nx, unlQ X D.rt, unlS X D.bk, unlS X D.ct⟩
theorem ps_unl (h : PS X st t) : PS X st (fun D σ H => t (unlEnds X D) σ H) := ⟨fun pins s σ H D I q => thn (h.run pins s σ H (unlEnds X D) I q) fun f s' hs => by
  have go : ∀ {Q : L2.St → Hp → Prop}, (∃ σ' H', L2.Inv X pins σ' H' s' ∧ unlS X Q σ' H') → ∃ σ' H', L2.Inv X pins σ' H' s' ∧ Q σ' H' := fun {Q} ⟨σ', H', I', q⟩ => by
    rcases q with q | ⟨d, od, u, h1, h2, q⟩
    · exact ⟨σ', H', I', q⟩
    · exact ⟨σ', _, I'.unlock h1 h2, q⟩
  cases f with
  | next => exact go hs
  | brk => exact go hs
  | cont => exact go hs
  | ret u =>
    obtain ⟨v, σ', H', I', r, q⟩ := hs
    rcases q with q | ⟨d, od, u, h1, h2, q⟩
    · exact ⟨v, σ', H', I', r, q⟩
    · exact ⟨v, σ', _, I'.unlock h1 h2, r, q⟩⟩
theorem pe_unl (h : PE X e te) : PE X e (fun σ H Q => te σ H (unlQ X Q)) := ⟨fun pins s σ H Q I q => thn (h.run pins s σ H _ I q) fun v s' ⟨x, H', I', r, q⟩ => by
  rcases q with q | ⟨d, od, u, h1, h2, q⟩
  · exact ⟨x, H', I', r, q⟩
  · exact ⟨x, _, I'.unlock h1 h2, r, q⟩⟩
theorem pe_lockA (h : PE X e te) : PE X e (fun σ H Q => te σ H fun x H1 => Q x H1 ∨ ∃ d u, H1 d = some u ∧ Mut (some u) ∧ ∀ od, (∀ o' u', X.H_0 d ≠ some (.frz o' u')) → Q x (upd H1 d (.frz od u))) :=
  ⟨fun pins s σ H Q I q => thn (h.run pins s σ H _ I q) fun v s' ⟨x, H', I', r, q⟩ => by
    rcases q with q | ⟨d, u, h1, mu, k⟩
    · exact ⟨x, H', I', r, q⟩
    · obtain ⟨od, I2⟩ := I'.lock h1 mu
      exact ⟨x, _, I2, r, k od (I'.nofrz h1 mu)⟩⟩
end
section
variable {K : PySem.W.Frag} {B fp : List Addr} {Pn : List V} {Z0 F0 F F1 H H1 : Hp} {σ : L2.St} {ρ : Env}
/-- the loop itself, from a base of its own -/
theorem for_core {X : Cx} {pin : Nat} {mr : Mode} {gb : FS} {t : D → Env → Option Env} {g : TG} {J : It} {xs : List D} {E : DEnds} {Dn : Ends} {Z1 : Hp} (hpl : Pn.length = pin)
    (kg : ∀ (B : List Addr) (Pn : List V) (Z0 F0 F H : Hp) (σ : L2.St) (ρ ρ' : Env) (fp : List Addr) (v : V) (d : D), Pn.length = pin → StOk X.K B Pn Z0 F0 F H σ ρ fp → R X.K F v d → t d ρ = some ρ' →
      ∀ Q : L2.St → Hp → Prop, (∀ σ' fp', StOk X.K B Pn Z0 F0 F H σ' ρ' fp' → Q σ' H) → g v σ H Q)
    (S : StOk X.K B Pn Z1 F1 F1 H1 σ ρ fp) (it : ItD X.K B Z1 F1 J xs) (hx : forD t gb xs E ρ) (L : Links X.K B Pn Z1 F1 mr E Dn) :
    ∃ W : Nat → Nat → L2.St → Hp → Prop, (∃ m, W 0 m σ H1) ∧ ∀ i m σ H, W i m σ H → (J.stop i H ∧ Dn.nx σ H) ∨ (J.go i H ∧ ∃ N : L2.St → Hp → Prop, (∀ σ' H', N σ' H' → ∃ m', m' < m ∧ W (i + 1) m' σ' H') ∧
      ∀ x H', J.yld i H x H' → g x σ H' fun σ2 H2 => tDS X.K B pin mr gb { Dn with nx := N, ct := N, bk := Dn.nx } σ2 H2) := by
  refine ⟨fun i m σ H => ∃ F ρ fp', StOk X.K B Pn Z1 F1 F H σ ρ fp' ∧ m = xs.length - i ∧ i ≤ xs.length ∧ forD t gb (xs.drop i) E ρ, ⟨xs.length, F1, ρ, fp, S, rfl, Nat.zero_le _, hx⟩, ?_⟩
  rintro i m σ H ⟨F, ρ, fp', S, rfl, hi, hr⟩
  obtain ⟨k1, k2⟩ := it i F H S.wf S.z S.f
  by_cases hlt : i < xs.length
  · refine .inr ⟨(k1 hlt).1, fun σ' H' => ∃ F ρ fp', StOk X.K B Pn Z1 F1 F H' σ' ρ fp' ∧ forD t gb (xs.drop (i + 1)) E ρ, fun σ' H' ⟨F, ρ, fp', S, h⟩ => ⟨xs.length - (i + 1), by omega, F, ρ, fp', S, rfl, hlt, h⟩, fun x H' y => ?_⟩
    obtain ⟨F2, d, ed, s2, r2⟩ := (k1 hlt).2 x H' y
    have S2 := S.step s2 fun a h => (by cases h)
    rw [List.drop_eq_getElem_cons hlt] at hr
    have ed' : xs[i] = d := Option.some.inj ((List.getElem?_eq_getElem hlt).symm.trans ed)
    rw [ed'] at hr
    obtain ⟨ρ', et, hb'⟩ := hr
    refine kg B Pn _ F1 F2 H' σ ρ ρ' fp' x d hpl S2 r2 et _ fun σ2 fp2 S3 => ?_
    exact ⟨Pn, _, F1, F2, ρ', fp2, _, hpl, S3, hb', ⟨fun F H σ ρ fp S h => ⟨F, ρ, fp, S, h⟩, L.rt, L.nx, fun F H σ ρ fp S h => ⟨F, ρ, fp, S, h⟩⟩⟩
  · have e : i = xs.length := by omega
    subst e
    rw [List.drop_length] at hr
    exact .inl ⟨k2 (Nat.le_refl _), L.nx F H σ ρ fp' S hr⟩
theorem Links.unbase {mr : Mode} {E : DEnds} {Dn : Ends} (S : StOk K B Pn Z0 F0 F H σ ρ fp) (L : Links K B Pn Z0 F0 mr E Dn) : Links K B Pn (prot B fp H) F mr E Dn :=
  ⟨fun F' H' σ' ρ' fp' T h => L.nx F' H' σ' ρ' fp' (S.unbase T) h, fun F' H' σ' ρ' fp' v d f T hv ap h => L.rt F' H' σ' ρ' fp' v d f (S.unbase T) hv (ap.unbase S.zp) h,
    fun F' H' σ' ρ' fp' T h => L.bk F' H' σ' ρ' fp' (S.unbase T) h, fun F' H' σ' ρ' fp' T h => L.ct F' H' σ' ρ' fp' (S.unbase T) h⟩
/-! a dict that may be read is locked -/
theorem isDct_er {u : HO} (h : isDct u) : erO u = u := by cases u <;> first | rfl | exact h.elim
theorem isDct_mut {u : HO} (h : isDct u) : Mut (some u) := by cases u <;> first | trivial | exact h.elim
theorem WF.lockd {a : Addr} {od : Obj} {u : HO} (w : WF B F H) (h : H a = some u) (hd : isDct u) (hB : a ∉ B) : WF B F (upd H a (.frz od u)) :=
  ⟨fun b x e => by
    obtain ⟨hb, y, ey, er⟩ := rdH_some (w.sub b x e)
    by_cases c : b = a
    · subst c
      rw [h] at ey; cases ey
      exact rdH_of hb upd_same (by rw [isDct_er hd] at er; exact er)
    · exact rdH_of hb (by rw [upd_ne c]; exact ey) er, fun b o x hb e => by
    by_cases c : b = a
    · subst c
      rw [upd_same] at e
      cases e; exact hd
    · rw [upd_ne c] at e; exact w.lock b o x hb e, w.bag.keep fun b hb x e => by rw [upd_ne (ne_mem hb hB)]; exact e⟩
theorem WF.unlockd {a : Addr} {od : Obj} {u : HO} (w : WF B F H) (h : H a = some (.frz od u)) (hd : isDct u) (hB : a ∉ B) : WF B F (upd H a u) :=
  ⟨fun b x e => by
    obtain ⟨hb, y, ey, er⟩ := rdH_some (w.sub b x e)
    by_cases c : b = a
    · subst c
      rw [h] at ey; cases ey
      exact rdH_of hb upd_same (by rw [isDct_er hd]; exact er)
    · exact rdH_of hb (by rw [upd_ne c]; exact ey) er, fun b o x hb e => by
    by_cases c : b = a
    · subst c
      rw [upd_same] at e
      cases e; exact hd.elim
    · rw [upd_ne c] at e; exact w.lock b o x hb e, w.bag.keep fun b hb x e => by rw [upd_ne (ne_mem hb hB)]; exact e⟩
theorem StOk.locked {a : Addr} {od : Obj} {u : HO} (S : StOk K B Pn Z0 F0 F H σ ρ fp) (h : H a = some u) (hd : isDct u) (hB : a ∉ B) (hf : a ∉ fp) : StOk K B Pn (prot B fp (upd H a (.frz od u))) F F (upd H a (.frz od u)) σ ρ fp :=
  ⟨S.wf.lockd h hd hB, S.own.mono (fun _ _ h => h) fun b hb o e => by rw [upd_ne (ne_mem hb hf)]; exact e, S.nd, fun b hb => ⟨(S.out b hb).1, (S.out b hb).2.1, prot_in (.inl hb)⟩, prot_same, fun b hb => prot_in (.inr hb), fun _ _ h => h, fun b o e => .inl e, S.pn⟩
theorem Val.unlockd {m : Mode} {a : Addr} {od : Obj} {u : HO} {v : V} {d : D} {f : List Addr} (h : H a = some (.frz od u)) (hd : isDct u) (hv : Val K m B F H v d f) : Val K m B F (upd H a u) v d f := by
  have own : ∀ {n f}, Own K F H n v d f → Own K F (upd H a u) n v d f := fun {n f} ho => Own.mono (fun _ _ h => h) (fun b hb o e => by
    obtain ⟨o', e', mu⟩ := ho.there b hb
    have : b ≠ a := fun z => by
      subst z
      rw [h] at e'; cases e'
      exact mu
    rw [upd_ne this]; exact e) ho
  cases m with
  | rd =>
    refine ⟨hv.1.mono fun b x e => ?_, hv.2⟩
    obtain ⟨hb, y, ey, er⟩ := rdH_some e
    by_cases c : b = a
    · subst c
      rw [h] at ey; cases ey
      exact rdH_of hb upd_same (by rw [isDct_er hd]; exact er)
    · exact rdH_of hb (by rw [upd_ne c]; exact ey) er
  | bor n =>
    obtain ⟨⟨f, ho, hB⟩, e⟩ := hv
    exact ⟨⟨f, own ho, hB⟩, e⟩
  | own n => exact own hv
theorem StOk.unlocked {a : Addr} {od : Obj} {u : HO} {F' H' : Hp} {σ' : L2.St} {ρ' : Env} {fp' : List Addr} (S : StOk K B Pn Z0 F0 F H σ ρ fp) (h : H a = some u) (hd : isDct u) (hB : a ∉ B) (hf : a ∉ fp)
    (T : StOk K B Pn (prot B fp (upd H a (.frz od u))) F F' H' σ' ρ' fp') : H' a = some (.frz od u) ∧ StOk K B Pn Z0 F0 F' (upd H' a u) σ' ρ' fp' := by
  have ha : H' a = some (.frz od u) := T.z a _ (by rw [prot_out hf hB]; exact upd_same)
  have keep : ∀ b o, b ∉ fp → b ∉ B → H b = some o → upd H' a u b = some o := fun b o h1 h2 e => by
    by_cases c : b = a
    · subst c; rw [h] at e; rw [upd_same]; exact e
    · rw [upd_ne c]
      exact T.z b o (by rw [prot_out h1 h2, upd_ne c]; exact e)
  have hf' : a ∉ fp' := fun z => by
    have := (T.out a z).2.2
    rw [prot_out hf hB, upd_same] at this; cases this
  refine ⟨ha, T.wf.unlockd ha hd hB, T.own.mono (fun _ _ h => h) fun b hb o e => by rw [upd_ne (ne_mem hb hf')]; exact e, T.nd, fun b hb => ⟨(T.out b hb).1, (T.out b hb).2.1, ?_⟩, fun b o e => ?_, S.zB, fun b o e => T.f b o (S.f b o e), fun b o e => ?_, T.pn⟩
  · cases q : Z0 b with
    | none => rfl
    | some o =>
      exfalso
      have h1 : b ∉ fp := fun h => by rw [(S.out b h).2.2] at q; cases q
      have h2 : b ∉ B := fun h => by rw [S.zB b h] at q; cases q
      have := (T.out b hb).2.2
      rw [prot_out h1 h2] at this
      by_cases c : b = a
      · subst c; exact hf' hb
      · rw [upd_ne c, S.z b o q] at this; cases this
  · have h1 : b ∉ fp := fun h => by rw [(S.out b h).2.2] at e; cases e
    have h2 : b ∉ B := fun h => by rw [S.zB b h] at e; cases e
    exact keep b o h1 h2 (S.z b o e)
  · rcases T.fr b o e with z | z | z
    · exact S.fr b o z
    · right; left
      cases q : Z0 b with
      | none => rfl
      | some o =>
        exfalso
        have h1 : b ∉ fp := fun h => by rw [(S.out b h).2.2] at q; cases q
        have h2 : b ∉ B := fun h => by rw [S.zB b h] at q; cases q
        rw [prot_out h1 h2] at z
        by_cases c : b = a
        · subst c; rw [upd_same] at z; cases z
        · rw [upd_ne c, S.z b o q] at z; cases z
    · exact .inr (.inr z)
theorem Links.lockd {X : Cx} {mr : Mode} {E : DEnds} {Dn : Ends} {a : Addr} {od : Obj} {u : HO} (S : StOk K B Pn Z0 F0 F H σ ρ fp) (h : H a = some u) (hd : isDct u) (hB : a ∉ B) (hf : a ∉ fp) (hn : ∀ o' u', X.H_0 a ≠ some (.frz o' u'))
    (L : Links K B Pn Z0 F0 mr E Dn) : Links K B Pn (prot B fp (upd H a (.frz od u))) F mr E (unlEnds X Dn) := by
  have key : ∀ {F' H' : Hp} {σ' : L2.St} {ρ' : Env} {fp' : List Addr}, StOk K B Pn (prot B fp (upd H a (.frz od u))) F F' H' σ' ρ' fp' → _ := fun T => S.unlocked (od := od) h hd hB hf T
  refine ⟨fun F' H' σ' ρ' fp' T hh => .inr ⟨a, od, u, (key T).1, hn, L.nx F' _ σ' ρ' fp' (key T).2 hh⟩, fun F' H' σ' ρ' fp' v d f T hv ap hh => .inr ⟨a, od, u, (key T).1, hn, L.rt F' _ σ' ρ' fp' v d f (key T).2 (hv.unlockd (key T).1 hd) ⟨fun b hb => ?_, ap.2⟩ hh⟩,
    fun F' H' σ' ρ' fp' T hh => .inr ⟨a, od, u, (key T).1, hn, L.bk F' _ σ' ρ' fp' (key T).2 hh⟩, fun F' H' σ' ρ' fp' T hh => .inr ⟨a, od, u, (key T).1, hn, L.ct F' _ σ' ρ' fp' (key T).2 hh⟩⟩
  obtain ⟨h1, h2, h3, h4⟩ := ap.1 b hb
  refine ⟨h1, h2, ?_, h4⟩
  cases q : Z0 b with
  | none => rfl
  | some o =>
    exfalso
    have g1 : b ∉ fp := fun h => by rw [(S.out b h).2.2] at q; cases q
    have g2 : b ∉ B := fun h => by rw [S.zB b h] at q; cases q
    rw [prot_out g1 g2] at h3
    by_cases c : b = a
    · subst c; rw [upd_same] at h3; cases h3
    · rw [upd_ne c, S.z b o q] at h3; cases h3
/-- the keys -/
def keyD : Key → D
  | .inl i => .int i
  | .inr s => .str s
def keysD : D → Option (List D)
  | .dK es => some (es.map fun e => keyD e.1)
  | .dT es => some (es.map fun e => .tup (e.1.map keyD))
  | _ => none
theorem keyD_R {G : Hp} : ∀ k : Key, R K G (kV k) (keyD k)
  | .inl i => .int i
  | .inr s => .str s
theorem keysD_RL {G : Hp} : ∀ ks : List Key, RL K G (ks.map kV) (ks.map keyD)
  | [] => .nil
  | k :: ks => .cons (keyD_R k) (keysD_RL ks)
theorem itD_keys {a : Addr} {o : Obj} {kvs : List (Key × V)} {es : List (Key × D)} {Z : Hp} (h : Z a = some (.frz o (.dK kvs))) (hk : kvs.map (·.1) = es.map (·.1)) : ItD K B Z F1 (Itk a o kvs) (es.map fun e => keyD e.1) := by
  intro i F H w sz sf
  have hl : es.length = kvs.length := by have := congrArg List.length hk; simpa using this.symm
  rw [List.length_map, hl]
  have hs := sz a _ h
  refine ⟨fun hi => ⟨⟨hs, hi⟩, fun x H' ⟨e, k, v, e1, e2⟩ => ?_⟩, fun hi => ⟨hs, hi⟩⟩
  subst e
  subst e2
  have e3 : (es.map (·.1))[i]? = some k := by rw [← hk, List.getElem?_map, e1]; rfl
  rw [List.getElem?_map] at e3
  cases q : es[i]? with
  | none => rw [q] at e3; cases e3
  | some p =>
    rw [q] at e3
    have e4 : p.1 = k := Option.some.inj e3
    exact ⟨F, keyD k, by rw [List.getElem?_map, q, ← e4]; rfl, Step.refl w, keyD_R k⟩
theorem itD_keysT {a : Addr} {o : Obj} {kvs : List (List Key × V)} {es : List (List Key × D)} {Z : Hp} (h : Z a = some (.frz o (.dT kvs))) (hk : kvs.map (·.1) = es.map (·.1)) : ItD K B Z F1 (Itkt a o kvs) (es.map fun e => .tup (e.1.map keyD)) := by
  intro i F H w sz sf
  have hl : es.length = kvs.length := by have := congrArg List.length hk; simpa using this.symm
  rw [List.length_map, hl]
  have hs := sz a _ h
  refine ⟨fun hi => ⟨⟨hs, hi⟩, fun x H' ⟨e, k, v, q, e1, e2, e3⟩ => ?_⟩, fun hi => ⟨hs, hi⟩⟩
  subst e
  subst e2
  have e4 : (es.map (·.1))[i]? = some k := by rw [← hk, List.getElem?_map, e1]; rfl
  rw [List.getElem?_map] at e4
  cases r : es[i]? with
  | none => rw [r] at e4; cases e4
  | some p =>
    rw [r] at e4
    have e5 : p.1 = k := Option.some.inj e4
    have hq : q ∉ B := fun z => by
      obtain ⟨o, e, nt⟩ := w.bag.there z
      rw [e3] at e; cases e
      exact nt trivial
    exact ⟨addT F (rdH B H'), .tup (k.map keyD), by rw [List.getElem?_map, r, ← e5]; rfl, (Step.refl w).addT, .tup (addT_tup w.sub (rdH_of hq e3 rfl)) (keysD_RL k)⟩
end
end GK

namespace GK
open PySem PySem.Spec PyProof.Rows L2

def ksOf (R : List D → Prop) (d : D) : Prop := ∃ ks, keysD d = some ks ∧ R ks
section
variable {X : Cx} {pin : Nat} {mr m : Mode} {gb : FS} {f : FE} {t : D → Env → Option Env} {pos p : Pos} {tg e e2 : Expr} {body : List Stmt}
/-- for k in d -/
theorem ds_forK (hp : PassesOwn (model X.prog X.w) X.A X.env X.xe) (hc : X.calm = true) (he : DE X B e (.own 0) f) (hg : DG X pin tg t) (hb : DSs X B body pin mr gb)
    (hs : ∀ x, foldedSetIterable e X.env x = pure x := by intro _; rfl) : DS X B (.For tg e body [] pos) pin mr (gFor (fun ρ R => f ρ (ksOf R)) t gb) := by
  obtain ⟨g, pg, kg⟩ := hg.ok
  refine PS.imp (ps_unl (ps_for hp hc (pi_keys (pe_lockA he)) pg hb hs)) fun Dn σ H ⟨Pn, Z0, F0, F, ρ, fp, E, hpl, S, hf, L⟩ => ⟨F, ρ, fp, _, S.base, hf, fun F1 H1 v d f1 s1 hv o1 n1 hR => ?_⟩
  have S1 := S.step s1 fun a h => (by cases h)
  obtain ⟨ks, ek, hR⟩ := hR
  have L0 : Links X.K B Pn (prot B fp H1) F1 mr E (unlEnds X Dn) :=
    ⟨fun F H σ ρ fp S h => .inl (L.nx F H σ ρ fp (S1.unbase S) h), fun F H σ ρ fp' v d f S hv ap h => .inl (L.rt F H σ ρ fp' v d f (S1.unbase S) hv (ap.unbase S1.zp) h),
      fun F H σ ρ fp S h => .inl (L.bk F H σ ρ fp (S1.unbase S) h), fun F H σ ρ fp S h => .inl (L.ct F H σ ρ fp (S1.unbase S) h)⟩
  cases d <;> try (cases ek; done)
  · obtain ⟨a, kvs, rfl, h1, hk, r⟩ := hv.1.dKI
    have ek' := Option.some.inj ek
    subst ek'
    have hfp : a ∉ fp := fun z => by rw [(S1.out a z).1] at h1; cases h1
    obtain ⟨hB, x, ex, er⟩ := rdH_some (S1.wf.sub a _ h1)
    have cs : x = .dK kvs ∨ ∃ od, x = .frz od (.dK kvs) := by
      cases x <;> first | (left; exact er) | skip
      rename_i od u
      right
      have er' : u = .dK kvs := er
      exact ⟨od, by rw [er']⟩
    rcases cs with rfl | ⟨od, rfl⟩
    · refine .inr ⟨a, _, ex, trivial, fun od hn => ⟨a, od, rfl, .inl ⟨kvs, upd_same, ?_⟩⟩⟩
      exact for_core hpl kg (S1.locked ex trivial hB hfp) (itD_keys (by rw [prot_out hfp hB]; exact upd_same) hk) hR (L.lockd S1 ex trivial hB hfp hn)
    · refine .inl ⟨a, od, rfl, .inl ⟨kvs, ex, ?_⟩⟩
      exact for_core hpl kg S1.rebase (itD_keys (by rw [prot_out hfp hB]; exact ex) hk) hR L0
  · obtain ⟨a, kvs, rfl, h1, hk, r⟩ := hv.1.dTI
    have ek' := Option.some.inj ek
    subst ek'
    have hfp : a ∉ fp := fun z => by rw [(S1.out a z).1] at h1; cases h1
    obtain ⟨hB, x, ex, er⟩ := rdH_some (S1.wf.sub a _ h1)
    have cs : x = .dT kvs ∨ ∃ od, x = .frz od (.dT kvs) := by
      cases x <;> first | (left; exact er) | skip
      rename_i od u
      right
      have er' : u = .dT kvs := er
      exact ⟨od, by rw [er']⟩
    rcases cs with rfl | ⟨od, rfl⟩
    · refine .inr ⟨a, _, ex, trivial, fun od hn => ⟨a, od, rfl, .inr ⟨kvs, upd_same, ?_⟩⟩⟩
      exact for_core hpl kg (S1.locked ex trivial hB hfp) (itD_keysT (by rw [prot_out hfp hB]; exact upd_same) hk) hR (L.lockd S1 ex trivial hB hfp hn)
    · refine .inl ⟨a, od, rfl, .inr ⟨kvs, ex, ?_⟩⟩
      exact for_core hpl kg S1.rebase (itD_keysT (by rw [prot_out hfp hB]; exact ex) hk) hR L0
end
/-! ### list comprehensions -/
/-- its turns -/
def compD (t : D → Env → Option Env) (fc : FT) (fe : FE) (ρ : Env) : List D → List D → (D → Prop) → Prop
  | [], acc, R => R (.lst acc)
  | x :: xs, acc, R => ∃ ρ', t x ρ = some ρ' ∧ fc ρ' fun b => if b = true then fe ρ' fun y => acc.length < sizeLine ∧ compD t fc fe ρ xs (acc ++ [y]) R else compD t fc fe ρ xs acc R
/-- the own names are wiped -/
def wipeE (ρ : Env) : List Nat → Env
  | [] => ρ
  | v :: vs => (wipeE ρ vs).set v none
section
variable {K : PySem.W.Frag} {B fp : List Addr} {Pn : List V} {Z0 F0 F H : Hp} {σ : L2.St} {ρ : Env}
theorem OwnE.unset : ∀ {σ : L2.St} {ρ : Env} {fp : List Addr} (i : Nat), OwnE K F H σ ρ fp → fp.Nodup → ∃ fp', OwnE K F H (σ.set i none) (ρ.set i none) fp' ∧ fp'.Nodup ∧ ∀ a ∈ fp', a ∈ fp
  | [], [], fp, i, h, nd => ⟨fp, h, nd, fun _ h => h⟩
  | x :: σ, none :: ρ, fp, 0, h, nd => ⟨fp, h, nd, fun _ h => h⟩
  | x :: σ, none :: ρ, fp, i + 1, h, nd => OwnE.unset (σ := σ) (ρ := ρ) i h nd
  | some w :: σ, some (k, e) :: ρ, fp, 0, ⟨f1, f2, ef, h1, t⟩, nd => by
    subst ef
    exact ⟨f2, t, (List.nodup_append.mp nd).2.1, fun a ha => List.mem_append_right _ ha⟩
  | some w :: σ, some (k, e) :: ρ, fp, i + 1, ⟨f1, f2, ef, h1, t⟩, nd => by
    subst ef
    obtain ⟨n1, n2, n3⟩ := List.nodup_append.mp nd
    obtain ⟨fp', o, nd', sub⟩ := OwnE.unset (σ := σ) (ρ := ρ) i t n2
    refine ⟨f1 ++ fp', ⟨f1, fp', rfl, h1, o⟩, List.nodup_append.mpr ⟨n1, nd', fun a ha b hb e => n3 a ha b (sub b hb) e⟩, fun a ha => ?_⟩
    rcases List.mem_append.mp ha with z | z
    · exact List.mem_append_left _ z
    · exact List.mem_append_right _ (sub a z)
  | _ :: _, [], _, _, h, _ => by cases h
  | [], _ :: _, _, _, h, _ => by cases h
  | none :: _, some _ :: _, _, _, h, _ => by cases h
theorem StOk.wipe (S : StOk K B [] Z0 F0 F H σ ρ fp) : ∀ vs : List Nat, ∃ fp', StOk K B [] Z0 F0 F H (L2.wipe σ vs) (wipeE ρ vs) fp' ∧ ∀ a ∈ fp', a ∈ fp
  | [] => ⟨fp, S, fun _ h => h⟩
  | v :: vs => by
    obtain ⟨fp', S', sub⟩ := S.wipe vs
    obtain ⟨fp2, o, nd, sub2⟩ := S'.own.unset v S'.nd
    exact ⟨fp2, ⟨S'.wf, o, nd, fun a ha => S'.out a (sub2 a ha), S'.z, S'.zB, S'.f, S'.fr, fun i v e => (by simp at e)⟩, fun a ha => sub a (sub2 a ha)⟩
end
section
variable {K : PySem.W.Frag} {B fp : List Addr} {Pn : List V} {Z0 F0 F F1 F' H H1 H' : Hp} {σ : L2.St} {ρ : Env} {n : Nat}
theorem Step.mutNew {A : List Addr} {a : Addr} {o : HO} (s : Step B A F H F' H') (h : H a = none) (hF : F' a = none) (hB : a ∉ B) (ho : erO o = o) : Step B A F H F' (upd H' a o) :=
  ⟨fun b u hb e => by rw [upd_ne (ne_of_none e h)]; exact s.same b u hb e, s.fs, s.fresh, s.wf.mut hF hB ho⟩
/-- the target in a comprehension's block -/
structure DGc (X : Cx) (tg : Expr) (vs : List Nat) (t : D → Env → Option Env) : Prop where
  ok : ∃ g : TG, (∀ (s : Shared) (H : Hp) (scope : Scope) (C : Addr) (cl : List (Str × Addr)) (fp : List Addr), (∀ v ∈ vs, ∃ x, X.N[v]? = some x ∧ ∀ C cl, (compEnvC scope cl C X.env).scope.names.lookup x = some .local) → PG (X.blk s H scope (compEnvC scope cl C X.env) fp) tg g) ∧
    ∀ (B : List Addr) (F H : Hp) (σ : L2.St) (ρ ρ' : Env) (fp : List Addr) (v : V) (d : D), StOk X.K B [] noH noH F H (L2.wipe σ vs) ρ fp → R X.K F v d → t d ρ = some ρ' →
      ∀ Q : L2.St → Hp → Prop, (∀ σ' fp', StOk X.K B [] noH noH F H σ' ρ' fp' → L2.wipe σ' vs = L2.wipe σ vs → Q σ' H) → g v (L2.wipe σ vs) H Q
structure CompW (K : PySem.W.Frag) (B : List Addr) (n : Nat) (F1 H1 : Hp) (Da : Addr) (F H : Hp) (va : List V) (da : List D) (ga : List Addr) : Prop where
  s : Step B [] F1 H1 F H
  at_ : H Da = some (.lst va)
  own : OwnL (Own K F H n) va da ga
  out : ∀ a ∈ ga, F a = none ∧ a ∉ B ∧ H1 a = none
  nd : (Da :: ga).Nodup
  FD : F Da = none
theorem CompW.step {Da : Addr} {va : List V} {da : List D} {ga : List Addr} (hD : H1 Da = none) (hB : Da ∉ B) (w : CompW K B n F1 H1 Da F H va da ga) (s : Step B [] F H F' H') : CompW K B n F1 H1 Da F' H' va da ga :=
  ⟨w.s.trans s fun a h => (by cases h), s.same Da _ hB w.at_, w.own.imp fun v d f hf h => Own.mono s.fs (fun a ha o e => s.same a o (w.out a (hf a ha)).2.1 e) h, fun a ha => by
    obtain ⟨o, e, mu⟩ := w.own.there (fun v d f q => Own.there q) a ha
    exact ⟨s.out e mu (w.out a ha).2.1 (w.out a ha).1 (fun z => (by cases z)), (w.out a ha).2⟩, w.nd, s.out w.at_ trivial hB w.FD (fun z => (by cases z))⟩
theorem comp_core {X : Cx} {t : D → Env → Option Env} {fc : FT} {fe : FE} {g : TG} {J : It} {xs : List D} {R : D → Prop} {Q : VK} {Z : Hp} {Da : Addr} {vs : List Nat} {ρw : Env}
    (kg : ∀ (B : List Addr) (F H : Hp) (σ : L2.St) (ρ ρ' : Env) (fp : List Addr) (v : V) (d : D), StOk X.K B [] noH noH F H (L2.wipe σ vs) ρ fp → GK.R X.K F v d → t d ρ = some ρ' →
      ∀ Q : L2.St → Hp → Prop, (∀ σ' fp', StOk X.K B [] noH noH F H σ' ρ' fp' → L2.wipe σ' vs = L2.wipe σ vs → Q σ' H) → g v (L2.wipe σ vs) H Q)
    (S : StOk X.K B [] noH noH F1 H1 (L2.wipe σ vs) ρw fp) (it : ItD X.K B Z F1 J xs) (hZ : ∀ a o, Z a = some o → a ∉ B ∧ H1 a = some o) (hD : H1 Da = none) (hx : compD t fc fe ρw xs [] R)
    (fin : ∀ F H va da ga, CompW X.K B n F1 H1 Da F H va da ga → R (.lst da) → Q (.ref Da) H) :
    ∃ W : Nat → Nat → Hp → Prop, (∃ m, W 0 m (upd H1 Da (.lst []))) ∧ ∀ i m H, W i m H → (J.stop i H ∧ Q (.ref Da) H) ∨ (J.go i H ∧ ∃ Nx : Hp → Prop, (∀ H', Nx H' → ∃ m', m' < m ∧ W (i + 1) m' H') ∧ ∀ x H', J.yld i H x H' →
      g x (L2.wipe σ vs) H' fun σ2 H2 => L2.wipe σ2 vs = L2.wipe σ vs ∧ tDT X.K B fc σ2 H2 fun b H3 => if b = true then tD X.K B (.own n) fe σ2 H3 fun y H4 => ∃ acc, H4 Da = some (.lst acc) ∧ acc.length < sizeLine ∧ Nx (upd H4 Da (.lst (acc ++ [y]))) else Nx H3) := by
  have hB : Da ∉ B := S.wf.notB hD
  have hF : F1 Da = none := F_none S.wf hD
  refine ⟨fun i m H => ∃ F va da ga, CompW X.K B n F1 H1 Da F H va da ga ∧ m = xs.length - i ∧ i ≤ xs.length ∧ compD t fc fe ρw (xs.drop i) da R,
    ⟨xs.length, F1, [], [], [], ⟨(Step.refl S.wf).mutNew hD hF hB rfl, upd_same, rfl, fun a h => (by cases h), by simp, hF⟩, rfl, Nat.zero_le _, hx⟩, ?_⟩
  rintro i m H ⟨F, va, da, ga, w, rfl, hi, hr⟩
  obtain ⟨k1, k2⟩ := it i F H w.s.wf (fun a o e => w.s.same a o (hZ a o e).1 (hZ a o e).2) w.s.fs
  by_cases hlt : i < xs.length
  · refine .inr ⟨(k1 hlt).1, fun H' => ∃ F va da ga, CompW X.K B n F1 H1 Da F H' va da ga ∧ compD t fc fe ρw (xs.drop (i + 1)) da R, fun H' ⟨F, va, da, ga, w, h⟩ => ⟨xs.length - (i + 1), by omega, F, va, da, ga, w, rfl, hlt, h⟩, fun x H' y => ?_⟩
    obtain ⟨F2, d, ed, s2, r2⟩ := (k1 hlt).2 x H' y
    have w2 := w.step hD hB s2
    rw [List.drop_eq_getElem_cons hlt] at hr
    have ed' : xs[i] = d := Option.some.inj ((List.getElem?_eq_getElem hlt).symm.trans ed)
    rw [ed'] at hr
    obtain ⟨ρ', et, hb'⟩ := hr
    refine kg B F2 H' σ ρw ρ' fp x d (S.step w2.s fun a h => (by cases h)) r2 et _ fun σ2 fp2 S3 hw => ⟨hw, ?_⟩
    refine ⟨F2, ρ', fp2, _, S3, hb', fun F3 H3 b s3 hb => ?_⟩
    have w3 := w2.step hD hB s3
    cases b with
    | false =>
      dsimp only at hb ⊢
      rw [if_neg Bool.false_ne_true] at hb ⊢
      exact ⟨F3, va, da, ga, w3, hb⟩
    | true =>
      dsimp only at hb ⊢
      rw [if_pos rfl] at hb ⊢
      refine ⟨F3, ρ', fp2, _, S3.step s3 (fun a h => by cases h), hb, fun F4 H4 yv yd fy s4 hy oy ny ⟨hz, hk⟩ => ?_⟩
      have w4 := w3.step hD hB s4
      have hl : va.length = da.length := w.own.len
      have fresh : ∀ a ∈ fy, H3 a = none := fun a ha => (oy a ha).1.elim (fun z => by cases z) id
      have hDy : Da ∉ fy := fun z => by
        have := fresh Da z
        rw [w3.at_] at this; cases this
      have hDg : Da ∉ ga := (List.nodup_cons.mp w.nd).1
      refine ⟨va, w4.at_, by rw [hl]; exact hz, F4, va ++ [yv], da ++ [yd], ga ++ fy, ⟨w4.s.mutNew hD w4.FD hB rfl, upd_same, (w4.own.upd hDg).append (OwnL.one (Own.upd (show Own X.K F4 H4 n yv yd fy from hy) hDy)), fun a ha => ?_, ?_, w4.FD⟩, hk⟩
      · rcases List.mem_append.mp ha with z | z
        · exact w4.out a z
        · exact ⟨(oy a z).2.1, (oy a z).2.2, w3.s.new (oy a z).2.2 (fresh a z)⟩
      · refine List.nodup_cons.mpr ⟨fun z => (List.mem_append.mp z).elim hDg hDy, List.nodup_append.mpr ⟨(List.nodup_cons.mp w.nd).2, ny, fun a ha b hb e => ?_⟩⟩
        subst e
        obtain ⟨o, e, _⟩ := w3.own.there (fun v d f q => Own.there q) a ha
        rw [fresh a hb] at e; cases e
  · have e : i = xs.length := by omega
    subst e
    rw [List.drop_length] at hr
    exact .inl ⟨k2 (Nat.le_refl _), fin F H va da ga w hr⟩
theorem CompW.post {A : List Addr} {R : D → Prop} {Q : VK} {Da : Addr} {va : List V} {da : List D} {ga : List Addr} (hD : H1 Da = none) (hB : Da ∉ B) (w : CompW K B n F1 H1 Da F H va da ga) (hR : R (.lst da)) (k : Post K B A F1 H1 (.own (n + 1)) R Q) : Q (.ref Da) H :=
  k F H _ (.lst da) (Da :: ga) (w.s.weak fun a h => (by cases h)) ⟨Da, va, ga, rfl, w.at_, rfl, w.own⟩ (fun a ha => by
    rcases List.mem_cons.mp ha with z | z
    · rw [z]; exact ⟨.inr hD, w.FD, hB⟩
    · exact ⟨.inr (w.out a z).2.2, (w.out a z).1, (w.out a z).2.1⟩) w.nd hR
end
section
variable {X : Cx} {elt tg iter : Expr} {ifs : List Expr} {scope : Scope} {own : List (Str × Nat)} {pos : Pos} {fi : FI} {f fe : FE} {fc : FT} {t : D → Env → Option Env} {n : Nat}
def gComp (fi : FI) (t : D → Env → Option Env) (fc : FT) (fe : FE) (vs : List Nat) : FE := fun ρ R => fi ρ fun xs => compD t fc fe (wipeE ρ vs) xs [] R
abbrev DTs (X : Cx) (B : List Addr) (ifs : List Expr) (f : FT) : Prop := PTs X ifs (tDT X.K B f)
theorem dts_nil : DTs X B [] (fun _ R => R true) := ⟨fun pins s σ H Q I ⟨F, ρ, fp, R, S, hf, k⟩ => pts_nil.run pins s σ H Q I (k F H true (Step.refl S.wf) hf)⟩
theorem dts_one {c : Expr} (h : DT X B c fc) : DTs X B [c] fc := pts_one h
theorem tD_lc {wi : TI} {g : TG} {σ : L2.St} {H : Hp} {Q : VK} {vs : List Nat} (hwi : ∀ σ H R, tDI X.K B fi σ H R → wi σ H R)
    (kg : ∀ (B : List Addr) (F H : Hp) (σ : L2.St) (ρ ρ' : Env) (fp : List Addr) (v : V) (d : D), StOk X.K B [] noH noH F H (L2.wipe σ vs) ρ fp → R X.K F v d → t d ρ = some ρ' →
      ∀ Q : L2.St → Hp → Prop, (∀ σ' fp', StOk X.K B [] noH noH F H σ' ρ' fp' → L2.wipe σ' vs = L2.wipe σ vs → Q σ' H) → g v (L2.wipe σ vs) H Q)
    (h : tD X.K B (.own (n + 1)) (gComp fi t fc fe vs) σ H Q) : tLc wi g (tDT X.K B fc) (tD X.K B (.own n) fe) vs σ H Q := by
  obtain ⟨F, ρ, fp, R, S, hf, k⟩ := h
  refine hwi σ H _ ⟨F, ρ, fp, _, S, hf, fun J F1 H1 xs s1 it hx Da hD => ?_⟩
  have S1 := S.step s1 fun a h => (by cases h)
  obtain ⟨fpw, Sw, _⟩ := S1.wipe vs
  refine comp_core (n := n) kg Sw it (fun a o e => ?_) hD hx fun F H va da ga w hR => w.post hD (S1.wf.notB hD) hR (k.after s1 (A1 := []) fun a h => (by cases h))
  by_cases c : a ∈ fp ∨ a ∈ B
  · rw [prot_in c] at e; cases e
  · unfold prot at e
    rw [if_neg c] at e
    exact ⟨fun z => c (.inr z), e⟩
theorem de_lc (n : Nat) (hc : X.calm = true) (hN : X.N.Nodup) (hi : DI X B tg iter fi) (ok : BlkOk X.N X.env.scope scope own) (hg : DGc X tg (own.map (·.2)) t) (hol : ∀ v ∈ own.map (·.2), ∃ x, X.N[v]? = some x ∧ ∀ C cl, (compEnvC scope cl C X.env).scope.names.lookup x = some .local)
    (ht : ∀ (s : Shared) (H : Hp) (C : Addr) (cl : List (Str × Addr)) (fp : List Addr), DTs (X.blk s H scope (compEnvC scope cl C X.env) fp) B ifs fc)
    (he : ∀ (s : Shared) (H : Hp) (C : Addr) (cl : List (Str × Addr)) (fp : List Addr), DE (X.blk s H scope (compEnvC scope cl C X.env) fp) B elt (.own n) fe) (hs : ∀ x, foldedSetIterable iter X.env x = pure x := by intro _; rfl) :
    DE X B (.ListComp elt [⟨tg, iter, ifs, 0⟩] scope pos) (.own (n + 1)) (gComp fi t fc fe (own.map (·.2))) := by
  obtain ⟨g, pg, kg⟩ := hg.ok
  exact PE.imp (pe_lc hc hN hi ok (fun s H C cl fp => pg s H scope C cl fp hol) ht he hs) fun σ H Q q => tD_lc (fun _ _ _ h => h) kg q
/-- y = [..] on one line, y a local -/
theorem ds_setLc (i n : Nat) {pin : Nat} {mr : Mode} {y : Str} {py spos : Pos} (hc : X.calm = true) (hN : X.N.Nodup) (hy : X.N[i]? = some y) (hyl : X.env.scope.names.lookup y = some .local) (hp : pin ≤ i)
    (hsw : swapsWith (.ListComp elt [⟨tg, iter, ifs, 0⟩] scope pos) (some (.Name y py)) spos.line X.env = pure true) (hi : DI X B tg iter fi) (ok : BlkOk X.N X.env.scope scope own) (hg : DGc X tg (own.map (·.2)) t) (hol : ∀ v ∈ own.map (·.2), ∃ x, X.N[v]? = some x ∧ ∀ C cl, (compEnvC scope cl C X.env).scope.names.lookup x = some .local)
    (ht : ∀ (s : Shared) (H : Hp) (C : Addr) (cl : List (Str × Addr)) (fp : List Addr), DTs (X.blk s H scope (compEnvC scope cl C X.env) fp) B ifs fc)
    (he : ∀ (s : Shared) (H : Hp) (C : Addr) (cl : List (Str × Addr)) (fp : List Addr), DE (X.blk s H scope (compEnvC scope cl C X.env) fp) B elt (.own n) fe) (hs : ∀ x, foldedSetIterable iter X.env x = pure x := by intro _; rfl) :
    DS X B (.Assign [.Name y py] (.ListComp elt [⟨tg, iter, ifs, 0⟩] scope pos) spos) pin mr (fun E ρ => gComp fi t fc fe (own.map (·.2)) ρ fun d => i < ρ.length ∧ E.nx (ρ.set i (some (n + 1, d)))) := by
  obtain ⟨g, pg, kg⟩ := hg.ok
  refine PS.imp (ps_setLc (tt := tDT X.K B fc) (te := tD X.K B (.own n) fe) hc hN hy hyl hsw hi ok (fun s H C cl fp => pg s H scope C cl fp hol) ht he hs) fun Dn σ H ⟨Pn, Z0, F0, F, ρ, fp, E, hpl, S, hf, L⟩ => ?_
  refine tD_lc (Q := fun x H1 => Dn.nx (σ.set i (some x)) H1) (fun _ _ _ h => h) kg (tDM_of (pin := pin) (K := X.K) ⟨Pn, Z0, F0, F, ρ, fp, fun d ρ' => i < ρ'.length ∧ E.nx (ρ'.set i (some (n + 1, d))), hpl, S, hf, fun F' H' ρ' fp' v d f' S' hv ap hR => ?_⟩)
  obtain ⟨fp2, S2⟩ := S'.set hv ap hR.1 (by omega)
  exact L.nx F' H' _ _ fp2 S2 hR.2
theorem dgc_name {x : Str} {p : Pos} (i : Nat) (hN : X.N.Nodup) (hi : X.N[i]? = some x) : DGc X (.Name x p) [i] (tgN i) :=
  ⟨gName i, fun s H scope C cl fp hl => by
    obtain ⟨y, e, hy⟩ := hl i (by simp)
    rw [hi] at e; cases e
    exact pg_name hN hi (.inl (hy C cl)) (.inr (hy C cl)), fun B F H σ ρ ρ' fp v d S r e Q k => by
    unfold tgN at e
    split at e
    · rename_i hi'
      cases e
      obtain ⟨fp', S'⟩ := S.set (n := 0) (f := []) (i := i) ⟨r, rfl⟩ .nil hi' (Nat.zero_le _)
      refine k _ fp' S' ?_
      show ((σ.set i none).set i (some v)).set i none = σ.set i none
      rw [List.set_set, List.set_set]
    · cases e⟩
end
end GK

namespace GK
open PySem PySem.Spec PyProof.Rows L2

/-! ### comprehensions over a dict: it is locked meanwhile -/
/-- H' is H, or H with a dict locked -/
def Lk (X : Cx) (B : List Addr) (H H' : Hp) : Prop := H' = H ∨ ∃ a od u, H a = some u ∧ isDct u ∧ a ∉ B ∧ H' = upd H a (.frz od u) ∧ ∀ o' u', X.H_0 a ≠ some (.frz o' u')
section
variable {K : PySem.W.Frag} {B A fp : List Addr} {F F1 F' H H1 H' : Hp} {σ : L2.St} {ρ : Env} {n : Nat}
theorem Step.unlockd {a : Addr} {od : Obj} {u : HO} (h : H1 a = some u) (hd : isDct u) (hB : a ∉ B) (s : Step B A F1 (upd H1 a (.frz od u)) F H) : Step B A F1 H1 F (upd H a u) := by
  have ha : H a = some (.frz od u) := s.same a _ hB upd_same
  refine ⟨fun b o hb e => ?_, s.fs, fun b w e => ?_, s.wf.unlockd ha hd hB⟩
  · by_cases c : b = a
    · subst c; rw [h] at e; cases e; exact upd_same
    · rw [upd_ne c]; exact s.same b o hb (by rw [upd_ne c]; exact e)
  · rcases s.fresh b w e with z | z | z | z
    · exact .inl z
    · right; left
      by_cases c : b = a
      · subst c; rw [upd_same] at z; cases z
      · rw [upd_ne c] at z; exact z
    · exact .inr (.inr (.inl z))
    · exact .inr (.inr (.inr z))
theorem CompW.unlockd {Da a : Addr} {od : Obj} {u : HO} {va : List V} {da : List D} {ga : List Addr} (h : H1 a = some u) (hd : isDct u) (hB : a ∉ B) (hD : H1 Da = none) (w : CompW K B n F1 (upd H1 a (.frz od u)) Da F H va da ga) : CompW K B n F1 H1 Da F (upd H a u) va da ga := by
  have hne : Da ≠ a := fun z => by rw [z, h] at hD; cases hD
  have hga : a ∉ ga := fun z => by
    have := (w.out a z).2.2
    rw [upd_same] at this; cases this
  refine ⟨w.s.unlockd h hd hB, by rw [upd_ne hne]; exact w.at_, w.own.upd hga, fun b hb => ?_, w.nd, w.FD⟩
  obtain ⟨q1, q2, q3⟩ := w.out b hb
  have c : b ≠ a := fun z => by subst z; exact hga hb
  exact ⟨q1, q2, by rw [upd_ne c] at q3; exact q3⟩
theorem unl_fin {X : Cx} {v : V} {Q : VK} (l : Lk X B H1 H') (s : Step B [] F1 H' F H) (k1 : H' = H1 → Q v H) (k2 : ∀ a od u, H1 a = some u → isDct u → a ∉ B → H' = upd H1 a (.frz od u) → Q v (upd H a u)) : unlQ X Q v H := by
  rcases l with e | ⟨a, od, u, h1, h2, h3, e, h4⟩
  · exact .inl (k1 e)
  · subst e
    exact .inr ⟨a, od, u, s.same a _ h3 upd_same, h4, k2 a od u h1 h2 h3 rfl⟩
/-- an iterator over the keys of a dict that may be read; the dict is locked -/
theorem keys_ti {X : Cx} {f : FE} {Rx : List D → Prop} {Rt : It → Hp → Prop} (S : StOk X.K B [] noH noH F H σ ρ fp) (hf : f ρ (ksOf Rx))
    (k : ∀ J F1 H1 H1' xs, Step B [] F H F1 H1 → Rx xs → StOk X.K B [] noH noH F1 H1' σ ρ fp → Lk X B H1 H1' → (∀ a, H1' a = none ↔ H1 a = none) → ItD X.K B (prot B fp H1') F1 J xs → Rt J H1') :
    iKeys (fun σ H Q => tD X.K B (.own 0) f σ H fun x H1 => Q x H1 ∨ ∃ d u, H1 d = some u ∧ Mut (some u) ∧ ∀ od, (∀ o' u', X.H_0 d ≠ some (.frz o' u')) → Q x (upd H1 d (.frz od u))) σ H Rt := by
  refine ⟨F, ρ, fp, _, S, hf, fun F1 H1 v d f1 s1 hv o1 n1 hR => ?_⟩
  have S1 := S.step s1 fun a h => (by cases h)
  obtain ⟨ks, ek, hR⟩ := hR
  have hno : ∀ {a : Addr} {od : Obj} {u : HO}, H1 a = some u → ∀ b, upd H1 a (.frz od u) b = none ↔ H1 b = none := fun {a od u} h b => by
    by_cases c : b = a
    · subst c; rw [upd_same, h]; exact ⟨fun z => (by cases z), fun z => (by cases z)⟩
    · rw [upd_ne c]
  have lockS : ∀ {a : Addr} {od : Obj} {u : HO}, H1 a = some u → isDct u → a ∉ B → a ∉ fp → StOk X.K B [] noH noH F1 (upd H1 a (.frz od u)) σ ρ fp := fun h hd hB hfp => (S1.locked h hd hB hfp).base
  cases d <;> try (cases ek; done)
  · obtain ⟨a, kvs, rfl, h1, hk, r⟩ := hv.1.dKI
    have ek' := Option.some.inj ek
    subst ek'
    have hfp : a ∉ fp := fun z => by rw [(S1.out a z).1] at h1; cases h1
    obtain ⟨hB, x, ex, er⟩ := rdH_some (S1.wf.sub a _ h1)
    have cs : x = .dK kvs ∨ ∃ od, x = .frz od (.dK kvs) := by
      cases x <;> first | (left; exact er) | skip
      rename_i od u
      right
      have er' : u = .dK kvs := er
      exact ⟨od, by rw [er']⟩
    rcases cs with rfl | ⟨od, rfl⟩
    · exact .inr ⟨a, _, ex, trivial, fun od hn => ⟨a, od, rfl, .inl ⟨kvs, upd_same, k _ F1 H1 _ _ s1 hR (lockS ex trivial hB hfp) (.inr ⟨a, od, _, ex, trivial, hB, rfl, hn⟩) (hno ex) (itD_keys (by rw [prot_out hfp hB]; exact upd_same) hk)⟩⟩⟩
    · exact .inl ⟨a, od, rfl, .inl ⟨kvs, ex, k _ F1 H1 _ _ s1 hR S1 (.inl rfl) (fun _ => .rfl) (itD_keys (by rw [prot_out hfp hB]; exact ex) hk)⟩⟩
  · obtain ⟨a, kvs, rfl, h1, hk, r⟩ := hv.1.dTI
    have ek' := Option.some.inj ek
    subst ek'
    have hfp : a ∉ fp := fun z => by rw [(S1.out a z).1] at h1; cases h1
    obtain ⟨hB, x, ex, er⟩ := rdH_some (S1.wf.sub a _ h1)
    have cs : x = .dT kvs ∨ ∃ od, x = .frz od (.dT kvs) := by
      cases x <;> first | (left; exact er) | skip
      rename_i od u
      right
      have er' : u = .dT kvs := er
      exact ⟨od, by rw [er']⟩
    rcases cs with rfl | ⟨od, rfl⟩
    · exact .inr ⟨a, _, ex, trivial, fun od hn => ⟨a, od, rfl, .inr ⟨kvs, upd_same, k _ F1 H1 _ _ s1 hR (lockS ex trivial hB hfp) (.inr ⟨a, od, _, ex, trivial, hB, rfl, hn⟩) (hno ex) (itD_keysT (by rw [prot_out hfp hB]; exact upd_same) hk)⟩⟩⟩
    · exact .inl ⟨a, od, rfl, .inr ⟨kvs, ex, k _ F1 H1 _ _ s1 hR S1 (.inl rfl) (fun _ => .rfl) (itD_keysT (by rw [prot_out hfp hB]; exact ex) hk)⟩⟩
theorem prot_sub {a : Addr} {o : HO} (e : prot B fp H a = some o) : a ∉ B ∧ H a = some o := by
  by_cases c : a ∈ fp ∨ a ∈ B
  · rw [prot_in c] at e; cases e
  · unfold prot at e
    rw [if_neg c] at e
    exact ⟨fun z => c (.inr z), e⟩
end
section
variable {X : Cx} {elt tg iter : Expr} {ifs : List Expr} {scope : Scope} {own : List (Str × Nat)} {pos : Pos} {f fe : FE} {fc : FT} {t : D → Env → Option Env} {n : Nat}
theorem tD_lcK {g : TG} {σ : L2.St} {H : Hp} {Q : VK} {vs : List Nat}
    (kg : ∀ (B : List Addr) (F H : Hp) (σ : L2.St) (ρ ρ' : Env) (fp : List Addr) (v : V) (d : D), StOk X.K B [] noH noH F H (L2.wipe σ vs) ρ fp → R X.K F v d → t d ρ = some ρ' →
      ∀ Q : L2.St → Hp → Prop, (∀ σ' fp', StOk X.K B [] noH noH F H σ' ρ' fp' → L2.wipe σ' vs = L2.wipe σ vs → Q σ' H) → g v (L2.wipe σ vs) H Q)
    (h : tD X.K B (.own (n + 1)) (gComp (fun ρ R => f ρ (ksOf R)) t fc fe vs) σ H Q) :
    tLc (iKeys (fun σ H Q => tD X.K B (.own 0) f σ H fun x H1 => Q x H1 ∨ ∃ d u, H1 d = some u ∧ Mut (some u) ∧ ∀ od, (∀ o' u', X.H_0 d ≠ some (.frz o' u')) → Q x (upd H1 d (.frz od u)))) g (tDT X.K B fc) (tD X.K B (.own n) fe) vs σ H (unlQ X Q) := by
  obtain ⟨F, ρ, fp, R, S, hf, k⟩ := h
  refine keys_ti (Rx := fun xs => compD t fc fe (wipeE ρ vs) xs [] R) S hf fun J F1 H1 H1' xs s1 hx S1 lk hno it Da hD => ?_
  obtain ⟨fpw, Sw, _⟩ := S1.wipe vs
  refine comp_core (n := n) kg Sw it (fun a o e => prot_sub e) hD hx fun F H va da ga w hR => ?_
  have hD1 : H1 Da = none := (hno Da).mp hD
  have hB : Da ∉ B := S1.wf.notB hD
  refine unl_fin lk w.s (fun e => ?_) fun a od u h1 h2 h3 e => ?_
  · subst e
    exact w.post hD1 hB hR (k.after s1 (A1 := []) fun a h => (by cases h))
  · subst e
    exact (w.unlockd h1 h2 h3 hD1).post hD1 hB hR (k.after s1 (A1 := []) fun a h => (by cases h))
theorem de_lcK (n : Nat) (hc : X.calm = true) (hN : X.N.Nodup) (hi : DE X B iter (.own 0) f) (ok : BlkOk X.N X.env.scope scope own) (hg : DGc X tg (own.map (·.2)) t) (hol : ∀ v ∈ own.map (·.2), ∃ x, X.N[v]? = some x ∧ ∀ C cl, (compEnvC scope cl C X.env).scope.names.lookup x = some .local)
    (ht : ∀ (s : Shared) (H : Hp) (C : Addr) (cl : List (Str × Addr)) (fp : List Addr), DTs (X.blk s H scope (compEnvC scope cl C X.env) fp) B ifs fc)
    (he : ∀ (s : Shared) (H : Hp) (C : Addr) (cl : List (Str × Addr)) (fp : List Addr), DE (X.blk s H scope (compEnvC scope cl C X.env) fp) B elt (.own n) fe) (hs : ∀ x, foldedSetIterable iter X.env x = pure x := by intro _; rfl) :
    DE X B (.ListComp elt [⟨tg, iter, ifs, 0⟩] scope pos) (.own (n + 1)) (gComp (fun ρ R => f ρ (ksOf R)) t fc fe (own.map (·.2))) := by
  obtain ⟨g, pg, kg⟩ := hg.ok
  exact PE.imp (pe_unl (pe_lc hc hN (pi_keys (pe_lockA hi)) ok (fun s H C cl fp => pg s H scope C cl fp hol) ht he hs)) fun σ H Q q => tD_lcK kg q
theorem ds_setLcK (i n : Nat) {pin : Nat} {mr : Mode} {y : Str} {py spos : Pos} (hc : X.calm = true) (hN : X.N.Nodup) (hy : X.N[i]? = some y) (hyl : X.env.scope.names.lookup y = some .local) (hp : pin ≤ i)
    (hsw : swapsWith (.ListComp elt [⟨tg, iter, ifs, 0⟩] scope pos) (some (.Name y py)) spos.line X.env = pure true) (hi : DE X B iter (.own 0) f) (ok : BlkOk X.N X.env.scope scope own) (hg : DGc X tg (own.map (·.2)) t) (hol : ∀ v ∈ own.map (·.2), ∃ x, X.N[v]? = some x ∧ ∀ C cl, (compEnvC scope cl C X.env).scope.names.lookup x = some .local)
    (ht : ∀ (s : Shared) (H : Hp) (C : Addr) (cl : List (Str × Addr)) (fp : List Addr), DTs (X.blk s H scope (compEnvC scope cl C X.env) fp) B ifs fc)
    (he : ∀ (s : Shared) (H : Hp) (C : Addr) (cl : List (Str × Addr)) (fp : List Addr), DE (X.blk s H scope (compEnvC scope cl C X.env) fp) B elt (.own n) fe) (hs : ∀ x, foldedSetIterable iter X.env x = pure x := by intro _; rfl) :
    DS X B (.Assign [.Name y py] (.ListComp elt [⟨tg, iter, ifs, 0⟩] scope pos) spos) pin mr (fun E ρ => gComp (fun ρ R => f ρ (ksOf R)) t fc fe (own.map (·.2)) ρ fun d => i < ρ.length ∧ E.nx (ρ.set i (some (n + 1, d)))) := by
  obtain ⟨g, pg, kg⟩ := hg.ok
  refine PS.imp (ps_unl (ps_setLc (tt := tDT X.K B fc) (te := tD X.K B (.own n) fe) hc hN hy hyl hsw (pi_keys (pe_lockA hi)) ok (fun s H C cl fp => pg s H scope C cl fp hol) ht he hs)) fun Dn σ H ⟨Pn, Z0, F0, F, ρ, fp, E, hpl, S, hf, L⟩ => ?_
  refine tD_lcK (Q := fun x H1 => Dn.nx (σ.set i (some x)) H1) kg (tDM_of (pin := pin) (K := X.K) ⟨Pn, Z0, F0, F, ρ, fp, fun d ρ' => i < ρ'.length ∧ E.nx (ρ'.set i (some (n + 1, d))), hpl, S, hf, fun F' H' ρ' fp' v d f' S' hv ap hR => ?_⟩)
  obtain ⟨fp2, S2⟩ := S'.set hv ap hR.1 (by omega)
  exact L.nx F' H' _ _ fp2 S2 hR.2
end
end GK

namespace GK
open PySem PySem.Spec PyProof.Rows L2

/-! ### dict comprehensions, keys of either kind -/
section
variable {X : Cx} {pins : List (Addr × Obj)} {σ : L2.St} {H : Hp} {s : Shared}
/-- what a comprehension puts -/
theorem put_comp {E : Value → Shared → Prop} {Q : Unit → Shared → Prop} {a : Addr} {y v : V} {u r : Value} {H' : Hp} (hu : X.A.units + 1 < cLine) (I : L2.Inv X pins σ H s) (g : DPut H a y v H') (ry : RelV y u) (rv : RelV v r) (h : ∀ s', L2.Inv X pins σ H' s' → Q () s') :
    wpAny (model X.prog X.w) X.A (dictSet a u r) Q E s := by
  rcases g with ⟨kvs, k, e, rfl, hl, rfl⟩ | ⟨kvs, k, b, e, rfl, eb, hl, rfl⟩
  · exact d_dictSet I e hl ry rv h
  · obtain rfl : u = Value.ref b := ry
    obtain ⟨z, nd, ws, rel, at_⟩ := dt_of I.hok e
    have le : (putK kvs k v).length ≤ sizeLine := Nat.le_trans (length_putK kvs k v) hl
    refine wpAny_dictSet_heap (hsz := by rw [← Paired.length rel]; exact z) (show X.A.units < cLine from Nat.lt_of_succ_lt hu) (key_of I.hok eb) at_ fun h2 at2 same => ?_
    obtain ⟨q, es, ep, k1, k2, k3, k4, _, k5⟩ := at2
    refine h _ (d_write I (by rw [e]; trivial) same ⟨q, k1⟩ ⟨le, nd, _, (rel.put k eb rv).keeps fun c ys ec => ?_, q, es, ep, k1, k2, k3, k4, k5⟩)
    rw [upd_ne (ne_of ec e fun z => nomatch z), ec]
/-- the new dict -/
def emH : Bool → HO
  | false => .dK []
  | true => .dT []
def emD : Bool → D
  | false => .dK []
  | true => .dT []
theorem em_ok (b : Bool) (h : Heap) {P : Program} {w : World} {H : Hp} (hb : sysModules < h.objs.size) : ObjOk P w H (h.push { cls := .type "dict", data := .dict #[] }) h.objs.size (emH b) := by
  cases b with
  | false => exact dk_empty h hb
  | true => exact dt_empty h hb
/-- {k: v for tg in iter if ..} -/
def tDcB (bk : Bool) (wi : TI) (g : TG) (tt : TT) (tk tv : TE) (vs : List Nat) : TE := fun σ H Q => wi σ H fun J H1 => ∀ Da, H1 Da = none → ∃ W : Nat → Nat → Hp → Prop, (∃ m, W 0 m (upd H1 Da (emH bk))) ∧ ∀ i m H, W i m H →
  (J.stop i H ∧ Q (.ref Da) H) ∨ (J.go i H ∧ ∃ Nx : Hp → Prop, (∀ H', Nx H' → ∃ m', m' < m ∧ W (i + 1) m' H') ∧ ∀ x H', J.yld i H x H' → g x (L2.wipe σ vs) H' fun σ2 H2 => L2.wipe σ2 vs = L2.wipe σ vs ∧ tt σ2 H2 fun b H3 =>
    if b = true then tk σ2 H3 fun y H4 => tv σ2 H4 fun z H5 => ∃ H6, DPut H5 Da y z H6 ∧ Nx H6 else Nx H3)
theorem dcB_core {pins : List (Addr × Obj)} {s : Shared} {σ : L2.St} {H : Hp} {Q : VK} {use : Option (Value → Sem Unit)} {Qf : Value → Shared → Prop} {pos' : Pos} {bk : Bool} {kx vx tg iter : Expr} {ifs : List Expr} {scope : Scope} {own : List (Str × Nat)} {pos : Pos} {wi : TI} {g : TG} {tt : TT} {tk tv : TE} (hu : X.A.units + 1 < cLine) (hc : X.calm = true) (hN : X.N.Nodup) (I : L2.Inv X pins σ H s) (hi : PI X tg iter wi) (ok : BlkOk X.N X.env.scope scope own)
    (hg : ∀ (s : Shared) (H : Hp) (C : Addr) (cl : List (Str × Addr)) (fp : List Addr), PG (X.blk s H scope (compEnvC scope cl C X.env) fp) tg g) (ht : ∀ (s : Shared) (H : Hp) (C : Addr) (cl : List (Str × Addr)) (fp : List Addr), PTs (X.blk s H scope (compEnvC scope cl C X.env) fp) ifs tt)
    (hk : ∀ (s : Shared) (H : Hp) (C : Addr) (cl : List (Str × Addr)) (fp : List Addr), PE (X.blk s H scope (compEnvC scope cl C X.env) fp) kx tk)
    (hv : ∀ (s : Shared) (H : Hp) (C : Addr) (cl : List (Str × Addr)) (fp : List Addr), PE (X.blk s H scope (compEnvC scope cl C X.env) fp) vx tv) (hs : ∀ x, foldedSetIterable iter X.env x = pure x)
    (h : tDcB bk wi g tt tk tv (own.map (·.2)) σ H Q)
    (hRR : ∀ Da C s' m H', L2.Inv X pins σ H' s' → Q (.ref Da) H' → s'.heap.Ns C m → FpOk X pins H' C → compPost (model X.prog X.w) X.A X.xe use Qf (.ref Da) C (.ok .next) s') :
    wpAny (model X.prog X.w) X.A (comprehension (.DictComp kx vx [⟨tg, iter, ifs, 0⟩] scope pos) scope X.env pos' newDict false (eval iter X.env) use) Qf X.xe s := by
  have clos : ∀ y ∈ scope.names, y.2 = .free → ∃ c, X.env.cells.lookup y.1 = some c := fun y hy e => (ok.free y hy e).elim (fun k => I.ok.has _ (.inl k)) fun k => I.ok.has _ (.inr k)
  refine wpAny_comprehension_free (use := use) rfl hs (closure_ok clos) ok.kind (fun y hy e => by rw [ok.uniq y hy, e]) (thn (hi.run pins s σ H _ I h) fun xv sA hx => thn hx fun itv sB hB => ?_)
  obtain ⟨it, fp, tn, J, HB, rfl, IB, T, stB, fB, q⟩ := hB
  refine wpAny_newObj_type (newEnv_comp ?_)
  obtain ⟨Da, hDa⟩ : ∃ n, n = sB.heap.objs.size := ⟨_, rfl⟩
  have hfree : HB Da = none := IB.hok.fresh (Nat.le_of_eq hDa.symm)
  obtain ⟨W, ⟨m0, w0⟩, turn⟩ := q Da hfree
  rw [← hDa]
  obtain ⟨sC, hsC⟩ : ∃ x : Shared, x = { sB with heap := sB.heap.push { cls := .type "dict", data := .dict #[] } } := ⟨_, rfl⟩
  have hC : sC.heap = sB.heap.push { cls := .type "dict", data := .dict #[] } := by rw [hsC]
  obtain ⟨HC, hHC⟩ : ∃ x : Hp, x = upd HB Da (emH bk) := ⟨_, rfl⟩
  have IC : L2.Inv X pins σ HC sC := by
    rw [hHC, hsC]
    exact IB.laid (t' := sB.toks) (fun b o e => Heap.get?_push_of_some _ e) (Nat.le_of_eq hDa.symm) (hDa ▸ em_ok bk sB.heap IB.big)
  rw [← hsC]
  rw [← hHC] at w0
  have small : ∀ b ∈ fp, b < sB.heap.objs.size := fun b hb => (T.obj _ _ stB b hb).elim fun o h => Heap.lt_size h.1
  have fC : ∀ b ∈ fp, FpOk X pins HC b ∧ b < sC.heap.objs.size := fun b hb =>
    ⟨⟨by rw [hHC, upd_ne (by rw [hDa]; exact Nat.ne_of_lt (small b hb))]; exact (fB b hb).1, (fB b hb).2⟩, by rw [hC, Heap.size_push]; exact Nat.lt_succ_of_lt (small b hb)⟩
  have stC : tn 0 sC.heap := T.keep _ _ _ stB fun b _ o e => by rw [hC]; exact Heap.get?_push_of_some _ e
  have I0 := block_start IC ok hN fC
  have hlp : ∀ b ∈ fp, HC b = none := fun b hb => (fC b hb).1.1
  have pg := hg sC HC sC.heap.objs.size (cellsFrom (sC.heap.objs.size + 1) scope.names (cloFrom X.env.cells scope.names [])) fp
  have pt := ht sC HC sC.heap.objs.size (cellsFrom (sC.heap.objs.size + 1) scope.names (cloFrom X.env.cells scope.names [])) fp
  have pk := hk sC HC sC.heap.objs.size (cellsFrom (sC.heap.objs.size + 1) scope.names (cloFrom X.env.cells scope.names [])) fp
  have pv := hv sC HC sC.heap.objs.size (cellsFrom (sC.heap.objs.size + 1) scope.names (cloFrom X.env.cells scope.names [])) fp
  change codeAny _ _ (.compStart (.DictComp kx vx [⟨tg, iter, ifs, 0⟩] scope pos) 0 (.ref it) (.ref Da) (compEnvC scope (cellsFrom (sC.heap.objs.size + 1) scope.names (cloFrom X.env.cells scope.names [])) sC.heap.objs.size X.env)) (compPost (model X.prog X.w) X.A X.xe use Qf (.ref Da) sC.heap.objs.size) { sC with heap := pushCells (sC.heap.push { cls := .type "dict", data := .dict #[] }) scope.names }
  generalize hce : compEnvC scope (cellsFrom (sC.heap.objs.size + 1) scope.names (cloFrom X.env.cells scope.names [])) sC.heap.objs.size X.env = ce at I0 pg pt pk pv ⊢
  have cL : ce.locals = sC.heap.objs.size := by rw [← hce]; rfl
  generalize hsE : ({ sC with heap := pushCells (sC.heap.push { cls := .type "dict", data := .dict #[] }) scope.names } : Shared) = sE at I0 ⊢
  have stE : tn 0 sE.heap := T.keep _ _ _ stC fun b _ o e => by rw [← hsE]; exact pushCells_keeps _ _ _ _ (Heap.get?_push_of_some _ e)
  have stat : ∀ {σ' : L2.St} {H' : Hp} {s' : Shared}, L2.Inv (X.blk sC HC scope ce fp) [] σ' H' s' → (∀ b ∈ fp, H' b = none) → ∀ b ∈ fp, FpOk (X.blk sC HC scope ce fp) [] H' b := fun {σ' H' s'} I' hn b hb =>
    ⟨hn b hb, (I'.ok.exf b hb).1, I'.ok.exfs b hb, .inl hb, fun x c e => (I'.ok.exf b hb).2 x c e, fun p hp => by cases hp⟩
  have run := compLoop_anyD (prog := X.prog) (w := X.w) (A := X.A) (kx := kx) (vx := vx) (target := tg) (iter := iter) (ifs := ifs) (scope := scope) (pos := pos) (it := .ref it) (D := Da) (env := ce)
    (R := compPost (model X.prog X.w) X.A X.xe use Qf (.ref Da) sC.heap.objs.size)
    (fun n s' => ∃ i H', L2.Inv (X.blk sC HC scope ce fp) [] (L2.wipe σ (own.map (·.2))) H' s' ∧ tn i s'.heap ∧ (∀ b ∈ fp, H' b = none) ∧ W i n H') (by
      rintro n s5 ⟨i, H5, I5, st5, n5, w5⟩
      rcases turn i n H5 w5 with ⟨stop, qq⟩ | ⟨go, Nx, hNx, step⟩
      · refine thnF (T.done (X.blk sC HC scope ce fp) rfl rfl rfl hc i [] s5 _ H5 (fun _ _ => False) I5 (stat I5 n5) st5 stop) fun r s6 ⟨hr, I6⟩ => ?_
        subst hr
        have I7 : L2.Inv X pins σ H5 s6 := IC.call' (ch := fp) I6.os I6.base I6.hok I6.bare fun b hb => ⟨(fC b hb).1.2.2.2.1, (fC b hb).1.2.1, (fC b hb).1.2.2.2.2.1, (fC b hb).1.2.2.2.2.2⟩
        have nC : H5 sC.heap.objs.size = none := by rw [← cL]; exact I6.free
        obtain ⟨m, hn, _⟩ := I6.loc
        have hn : s6.heap.Ns sC.heap.objs.size m := by rw [← cL]; exact hn
        exact hRR Da sC.heap.objs.size s6 m H5 I7 qq hn (IC.fpOk (Nat.le_refl _) nC)
      · refine thnF (T.item (X.blk sC HC scope ce fp) rfl rfl rfl hc i [] s5 _ H5 (fun _ _ => False) I5 (stat I5 n5) st5 go) fun r s6 ⟨u, hr, h6⟩ => ?_
        subst hr
        refine thnF h6 fun _ s7 ⟨x, H7, I7, r7, y7, st7, n7⟩ => ?_
        refine thnF (pg.run _ s7 _ H7 x u _ (I7.pinned (stat I7 n7) (T.obj _ _ st7)) r7 (step x H7 y7)) fun _ s8 ⟨σ8, H8, I8, hw8, q8⟩ => ?_
        refine thnF (pt.run _ s8 σ8 H8 _ I8 q8) fun b s9 ⟨H9, I9, q9⟩ => ?_
        have fin : ∀ {s' : Shared} {H' : Hp}, L2.Inv (X.blk sC HC scope ce fp) ([] ++ pinsAt fp s7.heap) σ8 H' s' → Nx H' → ∃ m, m < n ∧ ∃ i H', L2.Inv (X.blk sC HC scope ce fp) [] (L2.wipe σ (own.map (·.2))) H' s' ∧ tn i s'.heap ∧ (∀ b ∈ fp, H' b = none) ∧ W i m H' := fun {s' H'} I' nx => by
          obtain ⟨m', hm, w'⟩ := hNx H' nx
          have kept : ∀ b ∈ fp, ∀ o, s7.heap.get? b = some o → s'.heap.get? b = some o ∧ H' b = none := fun b hb o e =>
            (I'.pin (b, o) (List.mem_append_right _ (List.mem_append_right _ (mem_pinsAt hb e)))).imp id fun z => z.1
          refine ⟨m', hm, i + 1, H', (I'.unpinned (pins := [])).weak (by rw [← hw8, wipe_length]) (fun j v e => (wipe_some (by rw [← hw8] at e; exact e)).1), T.keep _ _ _ st7 fun b hb o e => (kept b hb o e).1, fun b hb => ?_, w'⟩
          obtain ⟨o, e, _⟩ := T.obj _ _ st7 b hb
          exact (kept b hb o e).2
        cases b with
        | false =>
          rw [if_neg Bool.false_ne_true] at q9
          rw [if_neg Bool.false_ne_true]
          exact fin I9 q9
        | true =>
          rw [if_pos rfl] at q9
          rw [if_pos rfl]
          refine thnF (pk.run _ s9 σ8 H9 _ I9 q9) fun z sK ⟨yk, HK, IK, rk, qk⟩ => ?_
          refine thnF (pv.run _ sK σ8 HK _ IK qk) fun z2 sV ⟨yv, HV, IV, rv, HP, pt2, nx⟩ => ?_
          exact put_comp (X := X.blk sC HC scope ce fp) hu IV pt2 rk rv fun sP IP => fin IP nx) m0 (s := sE) ⟨0, HC, I0, stE, hlp, w0⟩
  exact codeAny_compStart_dict run (T.self X.A 0 _ _ _ stE run)
theorem pe_dcB {bk : Bool} {kx vx tg iter : Expr} {ifs : List Expr} {scope : Scope} {own : List (Str × Nat)} {pos : Pos} {wi : TI} {g : TG} {tt : TT} {tk tv : TE} (hu : X.A.units + 1 < cLine) (hc : X.calm = true) (hN : X.N.Nodup) (hi : PI X tg iter wi) (ok : BlkOk X.N X.env.scope scope own)
    (hg : ∀ (s : Shared) (H : Hp) (C : Addr) (cl : List (Str × Addr)) (fp : List Addr), PG (X.blk s H scope (compEnvC scope cl C X.env) fp) tg g) (ht : ∀ (s : Shared) (H : Hp) (C : Addr) (cl : List (Str × Addr)) (fp : List Addr), PTs (X.blk s H scope (compEnvC scope cl C X.env) fp) ifs tt)
    (hk : ∀ (s : Shared) (H : Hp) (C : Addr) (cl : List (Str × Addr)) (fp : List Addr), PE (X.blk s H scope (compEnvC scope cl C X.env) fp) kx tk)
    (hv : ∀ (s : Shared) (H : Hp) (C : Addr) (cl : List (Str × Addr)) (fp : List Addr), PE (X.blk s H scope (compEnvC scope cl C X.env) fp) vx tv) (hs : ∀ x, foldedSetIterable iter X.env x = pure x) :
    PE X (.DictComp kx vx [⟨tg, iter, ifs, 0⟩] scope pos) (tDcB bk wi g tt tk tv (own.map (·.2))) := by
  refine ⟨fun pins s σ H Q I h => ?_⟩
  rw [arm_eval_DictComp]
  refine dcB_core hu hc hN I hi ok hg ht hk hv hs h fun Da C s' m H' I' q hn f => ⟨m, hn, fun h2 sb => ?_⟩
  obtain ⟨f0, f1, f2, f3, f4, f5⟩ := f
  exact ⟨.ref Da, H', I'.turned (t' := s'.toks) (fun b o hb e => (sb.2 b hb).trans e) f0 f1 f3 f4 f5, rfl, q⟩
/-- y = {..} on one line, y a plain local -/
theorem ps_setDcB {i : Nat} {y : Str} {py spos : Pos} {bk : Bool} {kx vx tg iter : Expr} {ifs : List Expr} {scope : Scope} {own : List (Str × Nat)} {pos : Pos} {wi : TI} {g : TG} {tt : TT} {tk tv : TE} (hu : X.A.units + 1 < cLine) (hc : X.calm = true) (hN : X.N.Nodup) (hy : X.N[i]? = some y) (hyl : X.env.scope.names.lookup y = some .local) (hsw : swapsWith (.DictComp kx vx [⟨tg, iter, ifs, 0⟩] scope pos) (some (.Name y py)) spos.line X.env = pure true) (hi : PI X tg iter wi) (ok : BlkOk X.N X.env.scope scope own)
    (hg : ∀ (s : Shared) (H : Hp) (C : Addr) (cl : List (Str × Addr)) (fp : List Addr), PG (X.blk s H scope (compEnvC scope cl C X.env) fp) tg g) (ht : ∀ (s : Shared) (H : Hp) (C : Addr) (cl : List (Str × Addr)) (fp : List Addr), PTs (X.blk s H scope (compEnvC scope cl C X.env) fp) ifs tt)
    (hk : ∀ (s : Shared) (H : Hp) (C : Addr) (cl : List (Str × Addr)) (fp : List Addr), PE (X.blk s H scope (compEnvC scope cl C X.env) fp) kx tk)
    (hv : ∀ (s : Shared) (H : Hp) (C : Addr) (cl : List (Str × Addr)) (fp : List Addr), PE (X.blk s H scope (compEnvC scope cl C X.env) fp) vx tv) (hs : ∀ x, foldedSetIterable iter X.env x = pure x) :
    PS X (.Assign [.Name y py] (.DictComp kx vx [⟨tg, iter, ifs, 0⟩] scope pos) spos) (tAsg (tDcB bk wi g tt tk tv (own.map (·.2))) (L2.gName i)) := by
  refine ⟨fun pins s σ H D I h => ?_⟩
  rw [exec_Assign_Name_used _ _ _ _ hsw]
  refine wpAny_bind (wpAny_standAt (wpAny_bind ?_))
  change wpAny _ X.A (do let _ ← comprehension (.DictComp kx vx [⟨tg, iter, ifs, 0⟩] scope pos) scope X.env (firstIterPos [⟨tg, iter, ifs, 0⟩] pos) newDict false (eval iter X.env) (some (assign (.Name y py) X.env))) _ _ s
  have h : tDcB bk wi g tt tk tv (own.map (·.2)) σ H (fun x H1 => L2.gName i x σ H1 D.nx) := h
  refine wpAny_bind (thn (dcB_core (Qf := fun _ s' => SP X pins D .next s') hu hc hN I hi ok hg ht hk hv hs h fun Da C s' m H' I' q hn f => ?_) fun _ s' hq => wpAny_pure (wpAny_pure hq))
  change wpAny _ _ (assign (.Name y py) X.env (.ref Da)) _ _ _
  refine wpAny_assign_Name (store_ok2 (v := V.ref Da) I' hN hy (.inl hyl) rfl (fun s2 I2 ⟨a, sb, ha⟩ => ?_) (.inr hyl))
  obtain ⟨f0, f1, f2, f3, f4, f5⟩ := f
  have haC : C ≠ a := by
    rcases ha with z | z
    · rw [z]; exact f1
    · exact fun e => f4 y a z e.symm
  exact ⟨m, hn.sameBut sb haC, fun h3 sb3 => ⟨_, H', I2.turned (t' := s2.toks) (fun b o hb e => (sb3.2 b hb).trans e) f0 f1 f3 f4 f5, q⟩⟩
theorem sw_trueD {kx vx : Expr} {gs : List Comprehension} {scope : Scope} {pos py : Pos} {y : Str} {l : Nat} {env : PySem.Env} (hk : env.scope.kind = .function) (hy : env.scope.names.lookup y = some .local) (hl : (py.line == pos.line) = true)
    (ha : (scope.names.any fun (n, k) => n == y && (k == .local || k == .cell)) = false) : swapsWith (.DictComp kx vx gs scope pos) (some (.Name y py)) l env = pure true := by
  have ky : env.kindOf y = some .local := hy
  have hb : env.blockKind = .function := by unfold PySem.Env.blockKind; rw [hk]; rfl
  unfold swapsWith
  simp only [hb, ky, ha, Expr.pos, hl]
  rfl
end
end GK

namespace GK
open PySem PySem.Spec PyProof.Rows L2

def putDD : D → D → D → Option D
  | .dK es, k, v => match keyOf k with
    | some k => if es.length < sizeLine then some (.dK (putD es k v)) else none
    | none => none
  | .dT es, k, v => match keyT k with
    | some k => if es.length < sizeLine then some (.dT (putD es k v)) else none
    | none => none
  | _, _, _ => none
def compDD (t : D → Env → Option Env) (fc : FT) (fk fv : FE) (ρ : Env) : List D → D → (D → Prop) → Prop
  | [], acc, R => R acc
  | x :: xs, acc, R => ∃ ρ', t x ρ = some ρ' ∧ fc ρ' fun b => if b = true then fk ρ' fun k => fv ρ' fun v => ∃ acc', putDD acc k v = some acc' ∧ compDD t fc fk fv ρ xs acc' R else compDD t fc fk fv ρ xs acc R
section
variable {K : PySem.W.Frag} {B A fp : List Addr} {F F1 F' H H1 H' : Hp} {σ : L2.St} {ρ : Env}
theorem dput_ok {Da : Addr} {acc acc' k v : D} {y z : V} (w : WF B F H) (o : Own K F H 1 (.ref Da) acc [Da]) (ry : R K F y k) (rz : R K F z v) (e : putDD acc k v = some acc') :
    ∃ u, DPut H Da y z (upd H Da u) ∧ erO u = u ∧ Own K F (upd H Da u) 1 (.ref Da) acc' [Da] := by
  cases acc <;> try (cases e; done)
  · rename_i es
    unfold putDD at e
    dsimp only at e
    split at e
    · rename_i kk ek
      split at e
      · rename_i hz
        cases e
        obtain ⟨a, kvs, f, ea, h1, ef, hk, t⟩ := o
        cases ea
        have hlen : kvs.length = es.length := by have := congrArg List.length hk; simpa using this
        have ey := keyOf_R ek ry
        subst ey
        have ef' : f = [] := (List.cons.inj ef).2.symm
        subst ef'
        exact ⟨_, DPut.k h1 (by rw [hlen]; exact hz), rfl, _, _, [], rfl, upd_same, rfl, put_keys hk, OwnL.zero (put_rl rz hk t.toRL0)⟩
      · cases e
    · cases e
  · rename_i es
    unfold putDD at e
    dsimp only at e
    split at e
    · rename_i kk ek
      split at e
      · rename_i hz
        cases e
        obtain ⟨a, kvs, f, ea, h1, ef, hk, t⟩ := o
        cases ea
        have hlen : kvs.length = es.length := by have := congrArg List.length hk; simpa using this
        cases k <;> try (cases ek; done)
        obtain ⟨ta, ws, rfl, ht, hrl⟩ := ry.tupI
        have ew := keysOf_R ek hrl
        subst ew
        have ef' : f = [] := (List.cons.inj ef).2.symm
        subst ef'
        exact ⟨_, DPut.t h1 (tup_of w (w.sub _ _ ht)) (by rw [hlen]; exact hz), rfl, _, _, [], rfl, upd_same, rfl, put_keys hk, OwnL.zero (put_rl rz hk t.toRL0)⟩
      · cases e
    · cases e
structure DcW (K : PySem.W.Frag) (B : List Addr) (F1 H1 : Hp) (Da : Addr) (F H : Hp) (acc : D) : Prop where
  s : Step B [] F1 H1 F H
  own : Own K F H 1 (.ref Da) acc [Da]
  FD : F Da = none
theorem DcW.step {Da : Addr} {acc : D} (hB : Da ∉ B) (w : DcW K B F1 H1 Da F H acc) (s : Step B [] F H F' H') : DcW K B F1 H1 Da F' H' acc := by
  obtain ⟨o, e, mu⟩ := w.own.there Da (by simp)
  refine ⟨w.s.trans s fun a h => (by cases h), Own.mono s.fs (fun a ha o e => s.same a o (by rw [List.mem_singleton.mp ha]; exact hB) e) w.own, s.out e mu hB w.FD fun z => (by cases z)⟩
theorem DcW.unlockd {Da a : Addr} {od : Obj} {u : HO} {acc : D} (h : H1 a = some u) (hd : isDct u) (hB : a ∉ B) (hD : H1 Da = none) (w : DcW K B F1 (upd H1 a (.frz od u)) Da F H acc) : DcW K B F1 H1 Da F (upd H a u) acc := by
  have hne : Da ≠ a := fun z => by rw [z, h] at hD; cases hD
  exact ⟨w.s.unlockd h hd hB, w.own.upd fun z => hne (List.mem_singleton.mp z).symm, w.FD⟩
theorem DcW.post {R : D → Prop} {Q : VK} {Da : Addr} {acc : D} (hD : H1 Da = none) (hB : Da ∉ B) (w : DcW K B F1 H1 Da F H acc) (hR : R acc) (k : Post K B A F1 H1 (.own 1) R Q) : Q (.ref Da) H :=
  k F H _ acc [Da] (w.s.weak fun a h => (by cases h)) w.own (fun a ha => by rw [List.mem_singleton.mp ha]; exact ⟨.inr hD, w.FD, hB⟩) (by simp) hR
theorem dc_core' {X : Cx} {bk : Bool} {t : D → Env → Option Env} {fc : FT} {fk fv : FE} {g : TG} {J : It} {xs : List D} {R : D → Prop} {Q : VK} {Z : Hp} {Da : Addr} {vs : List Nat} {ρw : Env}
    (kg : ∀ (B : List Addr) (F H : Hp) (σ : L2.St) (ρ ρ' : Env) (fp : List Addr) (v : V) (d : D), StOk X.K B [] noH noH F H (L2.wipe σ vs) ρ fp → GK.R X.K F v d → t d ρ = some ρ' →
      ∀ Q : L2.St → Hp → Prop, (∀ σ' fp', StOk X.K B [] noH noH F H σ' ρ' fp' → L2.wipe σ' vs = L2.wipe σ vs → Q σ' H) → g v (L2.wipe σ vs) H Q)
    (S : StOk X.K B [] noH noH F1 H1 (L2.wipe σ vs) ρw fp) (it : ItD X.K B Z F1 J xs) (hZ : ∀ a o, Z a = some o → a ∉ B ∧ H1 a = some o) (hD : H1 Da = none) (hx : compDD t fc fk fv ρw xs (emD bk) R)
    (fin : ∀ F H acc, DcW X.K B F1 H1 Da F H acc → R acc → Q (.ref Da) H) :
    ∃ W : Nat → Nat → Hp → Prop, (∃ m, W 0 m (upd H1 Da (emH bk))) ∧ ∀ i m H, W i m H → (J.stop i H ∧ Q (.ref Da) H) ∨ (J.go i H ∧ ∃ Nx : Hp → Prop, (∀ H', Nx H' → ∃ m', m' < m ∧ W (i + 1) m' H') ∧ ∀ x H', J.yld i H x H' →
      g x (L2.wipe σ vs) H' fun σ2 H2 => L2.wipe σ2 vs = L2.wipe σ vs ∧ tDT X.K B fc σ2 H2 fun b H3 => if b = true then tD X.K B (.own 0) fk σ2 H3 fun y H4 => tD X.K B (.own 0) fv σ2 H4 fun z H5 => ∃ H6, DPut H5 Da y z H6 ∧ Nx H6 else Nx H3) := by
  have hB : Da ∉ B := S.wf.notB hD
  have hF : F1 Da = none := F_none S.wf hD
  have h0 : Own X.K F1 (upd H1 Da (emH bk)) 1 (.ref Da) (emD bk) [Da] := by
    cases bk
    · exact ⟨Da, [], [], rfl, upd_same, rfl, rfl, rfl⟩
    · exact ⟨Da, [], [], rfl, upd_same, rfl, rfl, rfl⟩
  have e0 : erO (emH bk) = emH bk := by cases bk <;> rfl
  refine ⟨fun i m H => ∃ F acc, DcW X.K B F1 H1 Da F H acc ∧ m = xs.length - i ∧ i ≤ xs.length ∧ compDD t fc fk fv ρw (xs.drop i) acc R,
    ⟨xs.length, F1, emD bk, ⟨(Step.refl S.wf).mutNew hD hF hB e0, h0, hF⟩, rfl, Nat.zero_le _, hx⟩, ?_⟩
  rintro i m H ⟨F, acc, w, rfl, hi, hr⟩
  obtain ⟨k1, k2⟩ := it i F H w.s.wf (fun a o e => w.s.same a o (hZ a o e).1 (hZ a o e).2) w.s.fs
  by_cases hlt : i < xs.length
  · refine .inr ⟨(k1 hlt).1, fun H' => ∃ F acc, DcW X.K B F1 H1 Da F H' acc ∧ compDD t fc fk fv ρw (xs.drop (i + 1)) acc R, fun H' ⟨F, acc, w, h⟩ => ⟨xs.length - (i + 1), by omega, F, acc, w, rfl, hlt, h⟩, fun x H' y => ?_⟩
    obtain ⟨F2, d, ed, s2, r2⟩ := (k1 hlt).2 x H' y
    have w2 := w.step hB s2
    rw [List.drop_eq_getElem_cons hlt] at hr
    have ed' : xs[i] = d := Option.some.inj ((List.getElem?_eq_getElem hlt).symm.trans ed)
    rw [ed'] at hr
    obtain ⟨ρ', et, hb'⟩ := hr
    refine kg B F2 H' σ ρw ρ' fp x d (S.step w2.s fun a h => (by cases h)) r2 et _ fun σ2 fp2 S3 hw => ⟨hw, ?_⟩
    refine ⟨F2, ρ', fp2, _, S3, hb', fun F3 H3 b s3 hb => ?_⟩
    have w3 := w2.step hB s3
    cases b with
    | false =>
      dsimp only at hb ⊢
      rw [if_neg Bool.false_ne_true] at hb ⊢
      exact ⟨F3, acc, w3, hb⟩
    | true =>
      dsimp only at hb ⊢
      rw [if_pos rfl] at hb ⊢
      have S4 := S3.step s3 (fun a h => by cases h)
      refine ⟨F3, ρ', fp2, _, S4, hb, fun F4 H4 yk dk fy s4 hy oy ny hk => ?_⟩
      refine ⟨F4, ρ', fp2, _, S4.step s4 (fun a h => by cases h), hk, fun F5 H5 yv dv fv' s5 hv ov nv ⟨acc', ea, hk2⟩ => ?_⟩
      have w5 := (w3.step hB s4).step hB s5
      obtain ⟨u, dp, eu, ow⟩ := dput_ok w5.s.wf w5.own (hy.1.mono s5.fs) hv.1 ea
      exact ⟨_, dp, F5, acc', ⟨w5.s.mutNew hD w5.FD hB eu, ow, w5.FD⟩, hk2⟩
  · have e : i = xs.length := by omega
    subst e
    rw [List.drop_length] at hr
    exact .inl ⟨k2 (Nat.le_refl _), fin F H acc w hr⟩
end
def gCompD (fi : FI) (bk : Bool) (t : D → Env → Option Env) (fc : FT) (fk fv : FE) (vs : List Nat) : FE := fun ρ R => fi ρ fun xs => compDD t fc fk fv (wipeE ρ vs) xs (emD bk) R
section
variable {X : Cx} {kx vx tg iter : Expr} {ifs : List Expr} {scope : Scope} {own : List (Str × Nat)} {pos : Pos} {f fk fv : FE} {fi : FI} {fc : FT} {t : D → Env → Option Env}
theorem de_dc (bk : Bool) (hu : X.A.units + 1 < cLine) (hc : X.calm = true) (hN : X.N.Nodup) (hi : DI X B tg iter fi) (ok : BlkOk X.N X.env.scope scope own) (hg : DGc X tg (own.map (·.2)) t) (hol : ∀ v ∈ own.map (·.2), ∃ x, X.N[v]? = some x ∧ ∀ C cl, (compEnvC scope cl C X.env).scope.names.lookup x = some .local)
    (ht : ∀ (s : Shared) (H : Hp) (C : Addr) (cl : List (Str × Addr)) (fp : List Addr), DTs (X.blk s H scope (compEnvC scope cl C X.env) fp) B ifs fc)
    (hk : ∀ (s : Shared) (H : Hp) (C : Addr) (cl : List (Str × Addr)) (fp : List Addr), DE (X.blk s H scope (compEnvC scope cl C X.env) fp) B kx (.own 0) fk)
    (hv : ∀ (s : Shared) (H : Hp) (C : Addr) (cl : List (Str × Addr)) (fp : List Addr), DE (X.blk s H scope (compEnvC scope cl C X.env) fp) B vx (.own 0) fv) (hs : ∀ x, foldedSetIterable iter X.env x = pure x := by intro _; rfl) :
    DE X B (.DictComp kx vx [⟨tg, iter, ifs, 0⟩] scope pos) (.own 1) (gCompD fi bk t fc fk fv (own.map (·.2))) := by
  obtain ⟨g, pg, kg⟩ := hg.ok
  refine PE.imp (pe_dcB (bk := bk) (tt := tDT X.K B fc) (tk := tD X.K B (.own 0) fk) (tv := tD X.K B (.own 0) fv) hu hc hN hi ok (fun s H C cl fp => pg s H scope C cl fp hol) ht hk hv hs) fun σ H Q ⟨F, ρ, fp, R, S, hf, k⟩ => ⟨F, ρ, fp, _, S, hf, fun J F1 H1 xs s1 it hx Da hD => ?_⟩
  have S1 := S.step s1 fun a h => (by cases h)
  obtain ⟨fpw, Sw, _⟩ := S1.wipe (own.map (·.2))
  exact dc_core' kg Sw it (fun a o e => prot_sub e) hD hx fun F H acc w hR => w.post hD (S1.wf.notB hD) hR (k.after s1 (A1 := []) fun a h => (by cases h))
theorem de_dcK (bk : Bool) (hu : X.A.units + 1 < cLine) (hc : X.calm = true) (hN : X.N.Nodup) (hi : DE X B iter (.own 0) f) (ok : BlkOk X.N X.env.scope scope own) (hg : DGc X tg (own.map (·.2)) t) (hol : ∀ v ∈ own.map (·.2), ∃ x, X.N[v]? = some x ∧ ∀ C cl, (compEnvC scope cl C X.env).scope.names.lookup x = some .local)
    (ht : ∀ (s : Shared) (H : Hp) (C : Addr) (cl : List (Str × Addr)) (fp : List Addr), DTs (X.blk s H scope (compEnvC scope cl C X.env) fp) B ifs fc)
    (hk : ∀ (s : Shared) (H : Hp) (C : Addr) (cl : List (Str × Addr)) (fp : List Addr), DE (X.blk s H scope (compEnvC scope cl C X.env) fp) B kx (.own 0) fk)
    (hv : ∀ (s : Shared) (H : Hp) (C : Addr) (cl : List (Str × Addr)) (fp : List Addr), DE (X.blk s H scope (compEnvC scope cl C X.env) fp) B vx (.own 0) fv) (hs : ∀ x, foldedSetIterable iter X.env x = pure x := by intro _; rfl) :
    DE X B (.DictComp kx vx [⟨tg, iter, ifs, 0⟩] scope pos) (.own 1) (gCompD (fun ρ R => f ρ (ksOf R)) bk t fc fk fv (own.map (·.2))) := by
  obtain ⟨g, pg, kg⟩ := hg.ok
  refine PE.imp (pe_unl (pe_dcB (bk := bk) (tt := tDT X.K B fc) (tk := tD X.K B (.own 0) fk) (tv := tD X.K B (.own 0) fv) hu hc hN (pi_keys (pe_lockA hi)) ok (fun s H C cl fp => pg s H scope C cl fp hol) ht hk hv hs)) fun σ H Q ⟨F, ρ, fp, R, S, hf, k⟩ =>
    keys_ti (Rx := fun xs => compDD t fc fk fv (wipeE ρ (own.map fun e : Str × Nat => e.2)) xs (emD bk) R) S hf fun J F1 H1 H1' xs s1 hx S1 lk hno it Da hD => ?_
  obtain ⟨fpw, Sw, _⟩ := S1.wipe (own.map (·.2))
  refine dc_core' kg Sw it (fun a o e => prot_sub e) hD hx fun F H acc w hR => ?_
  have hD1 : H1 Da = none := (hno Da).mp hD
  have hB : Da ∉ B := S1.wf.notB hD
  refine unl_fin lk w.s (fun e => ?_) fun a od u h1 h2 h3 e => ?_
  · subst e
    exact w.post hD1 hB hR (k.after s1 (A1 := []) fun a h => (by cases h))
  · subst e
    exact (w.unlockd h1 h2 h3 hD1).post hD1 hB hR (k.after s1 (A1 := []) fun a h => (by cases h))
theorem ds_setDc (i : Nat) (bk : Bool) {pin : Nat} {mr : Mode} {y : Str} {py spos : Pos} (hu : X.A.units + 1 < cLine) (hc : X.calm = true) (hN : X.N.Nodup) (hy : X.N[i]? = some y) (hyl : X.env.scope.names.lookup y = some .local) (hp : pin ≤ i)
    (hsw : swapsWith (.DictComp kx vx [⟨tg, iter, ifs, 0⟩] scope pos) (some (.Name y py)) spos.line X.env = pure true) (hi : DI X B tg iter fi) (ok : BlkOk X.N X.env.scope scope own) (hg : DGc X tg (own.map (·.2)) t) (hol : ∀ v ∈ own.map (·.2), ∃ x, X.N[v]? = some x ∧ ∀ C cl, (compEnvC scope cl C X.env).scope.names.lookup x = some .local)
    (ht : ∀ (s : Shared) (H : Hp) (C : Addr) (cl : List (Str × Addr)) (fp : List Addr), DTs (X.blk s H scope (compEnvC scope cl C X.env) fp) B ifs fc)
    (hk : ∀ (s : Shared) (H : Hp) (C : Addr) (cl : List (Str × Addr)) (fp : List Addr), DE (X.blk s H scope (compEnvC scope cl C X.env) fp) B kx (.own 0) fk)
    (hv : ∀ (s : Shared) (H : Hp) (C : Addr) (cl : List (Str × Addr)) (fp : List Addr), DE (X.blk s H scope (compEnvC scope cl C X.env) fp) B vx (.own 0) fv) (hs : ∀ x, foldedSetIterable iter X.env x = pure x := by intro _; rfl) :
    DS X B (.Assign [.Name y py] (.DictComp kx vx [⟨tg, iter, ifs, 0⟩] scope pos) spos) pin mr (fun E ρ => gCompD fi bk t fc fk fv (own.map (·.2)) ρ fun d => i < ρ.length ∧ E.nx (ρ.set i (some (1, d)))) := by
  obtain ⟨g, pg, kg⟩ := hg.ok
  refine PS.imp (ps_setDcB (bk := bk) (tt := tDT X.K B fc) (tk := tD X.K B (.own 0) fk) (tv := tD X.K B (.own 0) fv) hu hc hN hy hyl hsw hi ok (fun s H C cl fp => pg s H scope C cl fp hol) ht hk hv hs) fun Dn σ H ⟨Pn, Z0, F0, F, ρ, fp, E, hpl, S, hf, L⟩ => ?_
  obtain ⟨F, ρ, fp, R, S, hf, k⟩ := tDM_of (pin := pin) (K := X.K) (Q := fun x H1 => Dn.nx (σ.set i (some x)) H1) (m := .own 1) (f := gCompD fi bk t fc fk fv (own.map (·.2))) ⟨Pn, Z0, F0, F, ρ, fp, fun d ρ' => i < ρ'.length ∧ E.nx (ρ'.set i (some (1, d))), hpl, S, hf, fun F' H' ρ' fp' v d f' S' hv ap hR => by
    obtain ⟨fp2, S2⟩ := S'.set hv ap hR.1 (by omega)
    exact L.nx F' H' _ _ fp2 S2 hR.2⟩
  refine ⟨F, ρ, fp, _, S, hf, fun J F1 H1 xs s1 it hx Da hD => ?_⟩
  have S1 := S.step s1 fun a h => (by cases h)
  obtain ⟨fpw, Sw, _⟩ := S1.wipe (own.map (·.2))
  exact dc_core' (Q := fun x H1 => Dn.nx (σ.set i (some x)) H1) kg Sw it (fun a o e => prot_sub e) hD hx fun F H acc w hR => w.post hD (S1.wf.notB hD) hR (k.after s1 (A1 := []) fun a h => (by cases h))
theorem ds_setDcK (i : Nat) (bk : Bool) {pin : Nat} {mr : Mode} {y : Str} {py spos : Pos} (hu : X.A.units + 1 < cLine) (hc : X.calm = true) (hN : X.N.Nodup) (hy : X.N[i]? = some y) (hyl : X.env.scope.names.lookup y = some .local) (hp : pin ≤ i)
    (hsw : swapsWith (.DictComp kx vx [⟨tg, iter, ifs, 0⟩] scope pos) (some (.Name y py)) spos.line X.env = pure true) (hi : DE X B iter (.own 0) f) (ok : BlkOk X.N X.env.scope scope own) (hg : DGc X tg (own.map (·.2)) t) (hol : ∀ v ∈ own.map (·.2), ∃ x, X.N[v]? = some x ∧ ∀ C cl, (compEnvC scope cl C X.env).scope.names.lookup x = some .local)
    (ht : ∀ (s : Shared) (H : Hp) (C : Addr) (cl : List (Str × Addr)) (fp : List Addr), DTs (X.blk s H scope (compEnvC scope cl C X.env) fp) B ifs fc)
    (hk : ∀ (s : Shared) (H : Hp) (C : Addr) (cl : List (Str × Addr)) (fp : List Addr), DE (X.blk s H scope (compEnvC scope cl C X.env) fp) B kx (.own 0) fk)
    (hv : ∀ (s : Shared) (H : Hp) (C : Addr) (cl : List (Str × Addr)) (fp : List Addr), DE (X.blk s H scope (compEnvC scope cl C X.env) fp) B vx (.own 0) fv) (hs : ∀ x, foldedSetIterable iter X.env x = pure x := by intro _; rfl) :
    DS X B (.Assign [.Name y py] (.DictComp kx vx [⟨tg, iter, ifs, 0⟩] scope pos) spos) pin mr (fun E ρ => gCompD (fun ρ R => f ρ (ksOf R)) bk t fc fk fv (own.map (·.2)) ρ fun d => i < ρ.length ∧ E.nx (ρ.set i (some (1, d)))) := by
  obtain ⟨g, pg, kg⟩ := hg.ok
  refine PS.imp (ps_unl (ps_setDcB (bk := bk) (tt := tDT X.K B fc) (tk := tD X.K B (.own 0) fk) (tv := tD X.K B (.own 0) fv) hu hc hN hy hyl hsw (pi_keys (pe_lockA hi)) ok (fun s H C cl fp => pg s H scope C cl fp hol) ht hk hv hs)) fun Dn σ H ⟨Pn, Z0, F0, F, ρ, fp, E, hpl, S, hf, L⟩ => ?_
  obtain ⟨F, ρ, fp, R, S, hf, k⟩ := tDM_of (pin := pin) (K := X.K) (Q := fun x H1 => Dn.nx (σ.set i (some x)) H1) (m := .own 1) (f := gCompD (fun ρ R => f ρ (ksOf R)) bk t fc fk fv (own.map (·.2))) ⟨Pn, Z0, F0, F, ρ, fp, fun d ρ' => i < ρ'.length ∧ E.nx (ρ'.set i (some (1, d))), hpl, S, hf, fun F' H' ρ' fp' v d f' S' hv ap hR => by
    obtain ⟨fp2, S2⟩ := S'.set hv ap hR.1 (by omega)
    exact L.nx F' H' _ _ fp2 S2 hR.2⟩
  unfold tAsg tDcB
  dsimp only
  refine keys_ti (Rx := fun xs => compDD t fc fk fv (wipeE ρ (own.map fun e : Str × Nat => e.2)) xs (emD bk) R) S hf fun J F1 H1 H1' xs s1 hx S1 lk hno it Da hD => ?_
  obtain ⟨fpw, Sw, _⟩ := S1.wipe (own.map (·.2))
  refine dc_core' (Q := fun x H1 => unlS X Dn.nx (σ.set i (some x)) H1) kg Sw it (fun a o e => prot_sub e) hD hx fun F H acc w hR => ?_
  have hD1 : H1 Da = none := (hno Da).mp hD
  have hB : Da ∉ B := S1.wf.notB hD
  refine unl_fin (Q := fun x H1 => Dn.nx (σ.set i (some x)) H1) (v := .ref Da) lk w.s (fun e => ?_) fun a od u h1 h2 h3 e => ?_
  · subst e
    exact w.post hD1 hB hR (k.after s1 (A1 := []) fun a h => (by cases h))
  · subst e
    exact (w.unlockd h1 h2 h3 hD1).post hD1 hB hR (k.after s1 (A1 := []) fun a h => (by cases h))
end
end GK

namespace GK
open PySem PySem.Spec PyProof.Rows L2

/-! ### places inside what a name owns: a[i], a.f, a[k][j] .. -/
inductive PSt where
  | fld (f : Str) | ix (k : Nat) | key (k : Key) | keyT (k : List Key) | tx (k : Nat)
/-- the first entry of a key is replaced -/
def setE {κ : Type} (p : κ → Bool) (x : D) : List (κ × D) → List (κ × D)
  | [] => []
  | e :: r => if p e.1 = true then (e.1, x) :: r else e :: setE p x r
def subD : D → PSt → Option D
  | .obj _ es, .fld f => es.lookup f
  | .lst ds, .ix k => ds[k]?
  | .dK es, .key k => getD' es k
  | .dT es, .keyT k => getD' es k
  | .tup ds, .tx k => ds[k]?
  | _, _ => none
def subP : D → List PSt → Option D
  | d, [] => some d
  | d, s :: p => (subD d s).bind fun e => subP e p
def setD : D → PSt → D → D
  | .obj C es, .fld f, x => .obj C (setE (fun g => f == g) x es)
  | .lst ds, .ix k, x => .lst (ds.set k x)
  | .dK es, .key k, x => .dK (setE (fun g => decide (g = k)) x es)
  | .dT es, .keyT k, x => .dT (setE (fun g => decide (g = k)) x es)
  | .tup ds, .tx k, x => .tup (ds.set k x)
  | d, _, _ => d
def setP : D → List PSt → D → D
  | _, [], x => x
  | d, s :: p, x => match subD d s with
    | some e => setD d s (setP e p x)
    | none => d
def AtV (B : List Addr) (H : Hp) (v : V) : PSt → V → Prop
  | .fld f, w => ∃ a C dx fs, v = .ref a ∧ a ∉ B ∧ H a = some (.ins C dx fs) ∧ fs.lookup f = some w
  | .ix k, w => ∃ a vs, v = .ref a ∧ a ∉ B ∧ H a = some (.lst vs) ∧ vs[k]? = some w
  | .key k, w => ∃ a kvs, v = .ref a ∧ a ∉ B ∧ H a = some (.dK kvs) ∧ valV kvs k = some w
  | .keyT k, w => ∃ a kvs, v = .ref a ∧ a ∉ B ∧ H a = some (.dT kvs) ∧ valV kvs k = some w
  | .tx k, w => ∃ a vs, v = .ref a ∧ a ∉ B ∧ H a = some (.tup vs) ∧ vs[k]? = some w
def PathV (B : List Addr) (H : Hp) : V → List PSt → V → Prop
  | v, [], w => w = v
  | v, s :: p, w => ∃ x, AtV B H v s x ∧ PathV B H x p w
section
variable {K : PySem.W.Frag} {B A fp : List Addr} {F F1 F' H H1 H' : Hp} {σ : L2.St} {ρ : Env} {n m : Nat}
theorem AtV.det {v w w' : V} : ∀ {s : PSt}, AtV B H v s w → AtV B H v s w' → w = w'
  | .fld f, ⟨a, C, dx, fs, e, _, h, l⟩, ⟨a', C', dx', fs', e', _, h', l'⟩ => by
    subst e; cases e'; rw [h] at h'; cases h'; rw [l] at l'; exact Option.some.inj l'
  | .ix k, ⟨a, fs, e, _, h, l⟩, ⟨a', fs', e', _, h', l'⟩ => by
    subst e; cases e'; rw [h] at h'; cases h'; rw [l] at l'; exact Option.some.inj l'
  | .key k, ⟨a, fs, e, _, h, l⟩, ⟨a', fs', e', _, h', l'⟩ => by
    subst e; cases e'; rw [h] at h'; cases h'; rw [l] at l'; exact Option.some.inj l'
  | .keyT k, ⟨a, fs, e, _, h, l⟩, ⟨a', fs', e', _, h', l'⟩ => by
    subst e; cases e'; rw [h] at h'; cases h'; rw [l] at l'; exact Option.some.inj l'
  | .tx k, ⟨a, fs, e, _, h, l⟩, ⟨a', fs', e', _, h', l'⟩ => by
    subst e; cases e'; rw [h] at h'; cases h'; rw [l] at l'; exact Option.some.inj l'
theorem PathV.det : ∀ {p : List PSt} {v w w' : V}, PathV B H v p w → PathV B H v p w' → w = w'
  | [], _, _, _, h, h' => h.trans h'.symm
  | s :: p, _, _, _, ⟨x, h1, h2⟩, ⟨x', h1', h2'⟩ => by
    have := h1.det h1'
    subst this
    exact h2.det h2'
theorem AtV.same (s : ∀ a o, a ∉ B → H a = some o → H' a = some o) {v w : V} : ∀ {q : PSt}, AtV B H v q w → AtV B H' v q w
  | .fld f, ⟨a, C, dx, fs, e, hb, h, l⟩ => ⟨a, C, dx, fs, e, hb, s a _ hb h, l⟩
  | .ix k, ⟨a, fs, e, hb, h, l⟩ => ⟨a, fs, e, hb, s a _ hb h, l⟩
  | .key k, ⟨a, fs, e, hb, h, l⟩ => ⟨a, fs, e, hb, s a _ hb h, l⟩
  | .keyT k, ⟨a, fs, e, hb, h, l⟩ => ⟨a, fs, e, hb, s a _ hb h, l⟩
  | .tx k, ⟨a, fs, e, hb, h, l⟩ => ⟨a, fs, e, hb, s a _ hb h, l⟩
theorem PathV.same (s : ∀ a o, a ∉ B → H a = some o → H' a = some o) : ∀ {p : List PSt} {v w : V}, PathV B H v p w → PathV B H' v p w
  | [], _, _, h => h
  | q :: p, _, _, ⟨x, h1, h2⟩ => ⟨x, h1.same s, PathV.same s h2⟩
theorem PathV.app : ∀ {p : List PSt} {v x w : V} {q : PSt}, PathV B H v p x → AtV B H x q w → PathV B H v (p ++ [q]) w
  | [], _, _, _, _, h, k => by
    have h : _ = _ := h
    subst h
    exact ⟨_, k, rfl⟩
  | s :: p, _, _, _, _, ⟨y, h1, h2⟩, k => ⟨y, h1, PathV.app h2 k⟩
theorem subP_app : ∀ {p : List PSt} {d : D} {q : PSt}, subP d (p ++ [q]) = (subP d p).bind fun e => subD e q
  | [], d, q => by
    show (subD d q).bind (fun e => some e) = subD d q
    cases subD d q <;> rfl
  | s :: p, d, q => by
    show (subD d s).bind (fun e => subP e (p ++ [q])) = ((subD d s).bind fun e => subP e p).bind fun e => subD e q
    cases subD d s with
    | none => rfl
    | some e => exact subP_app
/-- the item at a place -/
theorem OwnL.at_ {P : V → D → List Addr → Prop} : ∀ {vs : List V} {ds : List D} {fp : List Addr} {i : Nat} {e : D}, OwnL P vs ds fp → fp.Nodup → ds[i]? = some e →
    ∃ v f, vs[i]? = some v ∧ P v e f ∧ (∀ a ∈ f, a ∈ fp) ∧ f.Nodup ∧ ∀ (P' : V → D → List Addr → Prop) (e' : D) (g : List Addr), (∀ w d k, (∀ b ∈ k, b ∈ fp ∧ b ∉ f) → P w d k → P' w d k) → P' v e' g → (∀ b ∈ g, b ∈ f ∨ b ∉ fp) → g.Nodup →
      ∃ fp', OwnL P' vs (ds.set i e') fp' ∧ fp'.Nodup ∧ ∀ b ∈ fp', b ∈ fp ∨ b ∈ g
  | [], [], _, i, e, _, _, h => by simp at h
  | v :: vs, d :: ds, fp, 0, e, ⟨f1, f2, ef, h, t⟩, nd, q => by
    have q' : d = e := Option.some.inj q
    subst q'
    subst ef
    obtain ⟨n1, n2, n3⟩ := List.nodup_append.mp nd
    refine ⟨v, f1, rfl, h, fun a ha => List.mem_append_left _ ha, n1, fun P' e' g hP hg hs hn => ⟨g ++ f2, ⟨g, f2, rfl, hg, t.imp fun w d k hk => hP w d k fun b hb => ⟨List.mem_append_right _ (hk b hb), fun z => n3 b z b (hk b hb) rfl⟩⟩, List.nodup_append.mpr ⟨hn, n2, fun a ha b hb e => ?_⟩, fun b hb => ?_⟩⟩
    · subst e
      rcases hs a ha with z | z
      · exact n3 a z a hb rfl
      · exact z (List.mem_append_right _ hb)
    · rcases List.mem_append.mp hb with z | z
      · exact .inr z
      · exact .inl (List.mem_append_right _ z)
  | v :: vs, d :: ds, fp, i + 1, e, ⟨f1, f2, ef, h, t⟩, nd, q => by
    subst ef
    obtain ⟨n1, n2, n3⟩ := List.nodup_append.mp nd
    obtain ⟨w, f, e1, e2, e3, e4, k⟩ := OwnL.at_ (i := i) (e := e) t n2 q
    refine ⟨w, f, e1, e2, fun a ha => List.mem_append_right _ (e3 a ha), e4, fun P' e' g hP hg hs hn => ?_⟩
    obtain ⟨fp', o, nd', sub⟩ := k P' e' g (fun w d l hl => hP w d l fun b hb => ⟨List.mem_append_right _ (hl b hb).1, (hl b hb).2⟩) hg (fun b hb => (hs b hb).imp id fun z y => z (List.mem_append_right _ y)) hn
    refine ⟨f1 ++ fp', ⟨f1, fp', rfl, hP v d f1 (fun b hb => ⟨List.mem_append_left _ hb, fun z => n3 b hb b (e3 b z) rfl⟩) h, o⟩, List.nodup_append.mpr ⟨n1, nd', fun a ha b hb e => ?_⟩, fun b hb => ?_⟩
    · subst e
      rcases sub a hb with z | z
      · exact n3 a ha a z rfl
      · rcases hs a z with y | y
        · exact n3 a ha a (e3 a y) rfl
        · exact y (List.mem_append_left _ ha)
    · rcases List.mem_append.mp hb with z | z
      · exact .inl (List.mem_append_left _ z)
      · exact (sub b z).imp (fun y => List.mem_append_right _ y) id
theorem setE_at {κ : Type} {p : κ → Bool} {x : D} : ∀ {es : List (κ × D)} {i : Nat} {k : κ}, (es.map (·.1))[i]? = some k → p k = true → (∀ j k', j < i → (es.map (·.1))[j]? = some k' → p k' = false) → (setE p x es).map (·.2) = (es.map (·.2)).set i x ∧ (setE p x es).map (·.1) = es.map (·.1)
  | [], i, k, e, _, _ => by simp at e
  | q :: r, 0, k, e, hp, _ => by
    have e' : q.1 = k := Option.some.inj e
    subst e'
    unfold setE
    rw [if_pos hp]
    exact ⟨rfl, rfl⟩
  | q :: r, i + 1, k, e, hp, hn => by
    have h0 : p q.1 = false := hn 0 q.1 (Nat.succ_pos _) rfl
    obtain ⟨i1, i2⟩ := setE_at (x := x) (es := r) (i := i) (k := k) e hp fun j k' hj hk => hn (j + 1) k' (Nat.succ_lt_succ hj) hk
    unfold setE
    rw [if_neg (by rw [h0]; exact Bool.false_ne_true)]
    exact ⟨congrArg (List.cons q.2) i1, congrArg (List.cons q.1) i2⟩
theorem lookup_at {m : Str} {d : D} : ∀ {fs : List (Str × V)} {es : List (Str × D)}, fs.map (·.1) = es.map (·.1) → es.lookup m = some d → ∃ (i : Nat) (k : Str), (es.map (·.1))[i]? = some k ∧ (m == k) = true ∧ (es.map (·.2))[i]? = some d ∧ (∀ v, (fs.map (·.2))[i]? = some v → fs.lookup m = some v) ∧ ∀ j k', j < i → (es.map (·.1))[j]? = some k' → (m == k') = false
  | [], [], _, h => by cases h
  | p :: r, q :: s, hk, h => by
    rw [List.map_cons, List.map_cons] at hk
    injection hk with h1 h2
    obtain ⟨pk, pv⟩ := p
    obtain ⟨qk, qv⟩ := q
    dsimp only at h1
    subst h1
    rw [List.lookup_cons] at h
    cases hb : m == pk with
    | true =>
      rw [hb] at h
      exact ⟨0, pk, rfl, hb, by simpa using h, fun v e => by rw [List.lookup_cons, hb]; simpa using e, fun j k' hj => absurd hj (Nat.not_lt_zero _)⟩
    | false =>
      rw [hb] at h
      obtain ⟨i, k, e1, e2, e3, e4, e5⟩ := lookup_at h2 h
      refine ⟨i + 1, k, by simpa using e1, e2, by simpa using e3, fun v e => by rw [List.lookup_cons, hb]; exact e4 v (by simpa using e), fun j k' hj e => ?_⟩
      cases j with
      | zero =>
        have e' : pk = k' := by simpa using e
        rw [← e']; exact hb
      | succ j => exact e5 j k' (Nat.lt_of_succ_lt_succ hj) (by simpa using e)
  | [], _ :: _, h, _ => by cases h
  | _ :: _, [], h, _ => by cases h
theorem get_at {κ : Type} [DecidableEq κ] {m : κ} {d : D} : ∀ {fs : List (κ × V)} {es : List (κ × D)}, fs.map (·.1) = es.map (·.1) → getD' es m = some d → ∃ (i : Nat) (k : κ), (es.map (·.1))[i]? = some k ∧ decide (k = m) = true ∧ (es.map (·.2))[i]? = some d ∧ (∀ v, (fs.map (·.2))[i]? = some v → valV fs m = some v) ∧ ∀ j k', j < i → (es.map (·.1))[j]? = some k' → decide (k' = m) = false
  | [], [], _, h => by cases h
  | p :: r, q :: s, hk, h => by
    rw [List.map_cons, List.map_cons] at hk
    injection hk with h1 h2
    by_cases c : q.1 = m
    · have hd : q.2 = d := by
        have : getD' (q :: s) m = some q.2 := by simp [getD', List.find?_cons, c]
        rw [this] at h; exact Option.some.inj h
      refine ⟨0, q.1, rfl, decide_eq_true c, by rw [← hd]; rfl, fun v e => ?_, fun j k' hj => absurd hj (Nat.not_lt_zero _)⟩
      have e' : p.2 = v := by simpa using e
      rw [← e']; exact valV_pos (h1.trans c)
    · have g : getD' (q :: s) m = getD' s m := by simp [getD', List.find?_cons, c]
      rw [g] at h
      obtain ⟨i, k, e1, e2, e3, e4, e5⟩ := get_at h2 h
      refine ⟨i + 1, k, by simpa using e1, e2, by simpa using e3, fun v e => by rw [valV_neg (fun z => c (h1.symm.trans z))]; exact e4 v (by simpa using e), fun j k' hj e => ?_⟩
      cases j with
      | zero =>
        have e' : q.1 = k' := by simpa using e
        rw [← e']; exact decide_eq_false c
      | succ j => exact e5 j k' (Nat.lt_of_succ_lt_succ hj) (by simpa using e)
  | [], _ :: _, h, _ => by cases h
  | _ :: _, [], h, _ => by cases h
/-- one step down -/
theorem Own.subF {v : V} {d e : D} {s : PSt} (w0 : WF B F H) (o : Own K F H (n + 1) v d fp) (nd : fp.Nodup) (hB : ∀ a ∈ fp, a ∉ B) (h : subD d s = some e) :
    ∃ v' f', AtV B H v s v' ∧ Own K F H n v' e f' ∧ (∀ a ∈ f', a ∈ fp) ∧ f'.Nodup ∧ ∀ (F' H' : Hp) (e' : D) (g : List Addr), Same F F' → (∀ b ∈ fp, b ∉ f' → ∀ o, H b = some o → H' b = some o) → Own K F' H' n v' e' g → (∀ b ∈ g, b ∈ f' ∨ b ∉ fp) → g.Nodup →
      ∃ fp', Own K F' H' (n + 1) v (setD d s e') fp' ∧ fp'.Nodup ∧ ∀ b ∈ fp', b ∈ fp ∨ b ∈ g := by
  have fin : ∀ {a : Addr} {f f' g : List Addr} {vs : List V} {ds ds' : List D} {H' : Hp}, (a :: f).Nodup → (∀ b ∈ g, b ∈ f' ∨ b ∉ (a :: f)) → (∀ b ∈ f', b ∈ f) → (∀ b ∈ g, b ≠ a) := fun {a f f' g vs ds ds' H'} nd hs hf b hb z => by
    subst z
    rcases hs b hb with y | y
    · exact (List.nodup_cons.mp nd).1 (hf b y)
    · exact y List.mem_cons_self
  cases d <;> cases s <;> try (cases h; done)
  · -- tuple
    rename_i ds k
    obtain ⟨a, vs, rfl, h1, t⟩ := o
    obtain ⟨w, f', e1, e2, e3, e4, kk⟩ := t.at_ nd h
    have h1' := w0.sub a _ h1
    refine ⟨w, f', ⟨a, vs, rfl, (rdH_some h1').1, tup_of w0 h1', e1⟩, e2, e3, e4, fun F' H' e' g sF hH ho hs hn => ?_⟩
    obtain ⟨fp', o', nd', sub⟩ := kk (Own K F' H' n) e' g (fun w d l hl q => Own.mono sF (fun b hb o e => hH b (hl b hb).1 (hl b hb).2 o e) q) ho hs hn
    exact ⟨fp', ⟨a, vs, rfl, sF _ _ h1, o'⟩, nd', sub⟩
  · -- list
    rename_i ds k
    obtain ⟨a, vs, f, rfl, h1, rfl, t⟩ := o
    obtain ⟨n1, n2⟩ := List.nodup_cons.mp nd
    obtain ⟨w, f', e1, e2, e3, e4, kk⟩ := t.at_ n2 h
    refine ⟨w, f', ⟨a, vs, rfl, hB a List.mem_cons_self, h1, e1⟩, e2, fun b hb => List.mem_cons_of_mem _ (e3 b hb), e4, fun F' H' e' g sF hH ho hs hn => ?_⟩
    have hga := fin (vs := []) (ds := []) (ds' := []) (H' := H') nd hs e3
    obtain ⟨fp', o', nd', sub⟩ := kk (Own K F' H' n) e' g (fun w d l hl q => Own.mono sF (fun b hb o e => hH b (List.mem_cons_of_mem _ (hl b hb).1) (hl b hb).2 o e) q) ho (fun b hb => (hs b hb).imp id fun z y => z (List.mem_cons_of_mem _ y)) hn
    refine ⟨a :: fp', ⟨a, vs, fp', rfl, hH a List.mem_cons_self (fun z => n1 (e3 a z)) _ h1, rfl, o'⟩, List.nodup_cons.mpr ⟨fun z => (sub a z).elim n1 fun y => hga a y rfl, nd'⟩, fun b hb => ?_⟩
    rcases List.mem_cons.mp hb with z | z
    · exact .inl (by rw [z]; exact List.mem_cons_self)
    · exact (sub b z).imp (fun y => List.mem_cons_of_mem _ y) id
  · -- dict
    rename_i es k
    obtain ⟨a, kvs, f, rfl, h1, rfl, hk, t⟩ := o
    obtain ⟨n1, n2⟩ := List.nodup_cons.mp nd
    obtain ⟨i, kk0, g1, g2, g3, g4, g5⟩ := get_at hk h
    obtain ⟨w, f', e1, e2, e3, e4, kk⟩ := t.at_ n2 g3
    refine ⟨w, f', ⟨a, kvs, rfl, hB a List.mem_cons_self, h1, g4 w e1⟩, e2, fun b hb => List.mem_cons_of_mem _ (e3 b hb), e4, fun F' H' e' g sF hH ho hs hn => ?_⟩
    have hga := fin (vs := []) (ds := []) (ds' := []) (H' := H') nd hs e3
    obtain ⟨fp', o', nd', sub⟩ := kk (Own K F' H' n) e' g (fun w d l hl q => Own.mono sF (fun b hb o e => hH b (List.mem_cons_of_mem _ (hl b hb).1) (hl b hb).2 o e) q) ho (fun b hb => (hs b hb).imp id fun z y => z (List.mem_cons_of_mem _ y)) hn
    obtain ⟨s1, s2⟩ := setE_at (p := fun g => decide (g = k)) (x := e') g1 g2 g5
    refine ⟨a :: fp', ⟨a, kvs, fp', rfl, hH a List.mem_cons_self (fun z => n1 (e3 a z)) _ h1, rfl, by rw [s2]; exact hk, by rw [s1]; exact o'⟩, List.nodup_cons.mpr ⟨fun z => (sub a z).elim n1 fun y => hga a y rfl, nd'⟩, fun b hb => ?_⟩
    rcases List.mem_cons.mp hb with z | z
    · exact .inl (by rw [z]; exact List.mem_cons_self)
    · exact (sub b z).imp (fun y => List.mem_cons_of_mem _ y) id
  · rename_i es k
    obtain ⟨a, kvs, f, rfl, h1, rfl, hk, t⟩ := o
    obtain ⟨n1, n2⟩ := List.nodup_cons.mp nd
    obtain ⟨i, kk0, g1, g2, g3, g4, g5⟩ := get_at hk h
    obtain ⟨w, f', e1, e2, e3, e4, kk⟩ := t.at_ n2 g3
    refine ⟨w, f', ⟨a, kvs, rfl, hB a List.mem_cons_self, h1, g4 w e1⟩, e2, fun b hb => List.mem_cons_of_mem _ (e3 b hb), e4, fun F' H' e' g sF hH ho hs hn => ?_⟩
    have hga := fin (vs := []) (ds := []) (ds' := []) (H' := H') nd hs e3
    obtain ⟨fp', o', nd', sub⟩ := kk (Own K F' H' n) e' g (fun w d l hl q => Own.mono sF (fun b hb o e => hH b (List.mem_cons_of_mem _ (hl b hb).1) (hl b hb).2 o e) q) ho (fun b hb => (hs b hb).imp id fun z y => z (List.mem_cons_of_mem _ y)) hn
    obtain ⟨s1, s2⟩ := setE_at (p := fun g => decide (g = k)) (x := e') g1 g2 g5
    refine ⟨a :: fp', ⟨a, kvs, fp', rfl, hH a List.mem_cons_self (fun z => n1 (e3 a z)) _ h1, rfl, by rw [s2]; exact hk, by rw [s1]; exact o'⟩, List.nodup_cons.mpr ⟨fun z => (sub a z).elim n1 fun y => hga a y rfl, nd'⟩, fun b hb => ?_⟩
    rcases List.mem_cons.mp hb with z | z
    · exact .inl (by rw [z]; exact List.mem_cons_self)
    · exact (sub b z).imp (fun y => List.mem_cons_of_mem _ y) id
  · rename_i C es k
    obtain ⟨a, dx, kvs, f, rfl, h1, rfl, hk, t⟩ := o
    obtain ⟨n1, n2⟩ := List.nodup_cons.mp nd
    obtain ⟨i, kk0, g1, g2, g3, g4, g5⟩ := lookup_at hk h
    obtain ⟨w, f', e1, e2, e3, e4, kk⟩ := t.at_ n2 g3
    refine ⟨w, f', ⟨a, C, dx, kvs, rfl, hB a List.mem_cons_self, h1, g4 w e1⟩, e2, fun b hb => List.mem_cons_of_mem _ (e3 b hb), e4, fun F' H' e' g sF hH ho hs hn => ?_⟩
    have hga := fin (vs := []) (ds := []) (ds' := []) (H' := H') nd hs e3
    obtain ⟨fp', o', nd', sub⟩ := kk (Own K F' H' n) e' g (fun w d l hl q => Own.mono sF (fun b hb o e => hH b (List.mem_cons_of_mem _ (hl b hb).1) (hl b hb).2 o e) q) ho (fun b hb => (hs b hb).imp id fun z y => z (List.mem_cons_of_mem _ y)) hn
    obtain ⟨s1, s2⟩ := setE_at (p := fun g => k == g) (x := e') g1 g2 g5
    refine ⟨a :: fp', ⟨a, dx, kvs, fp', rfl, hH a List.mem_cons_self (fun z => n1 (e3 a z)) _ h1, rfl, by rw [s2]; exact hk, by rw [s1]; exact o'⟩, List.nodup_cons.mpr ⟨fun z => (sub a z).elim n1 fun y => hga a y rfl, nd'⟩, fun b hb => ?_⟩
    rcases List.mem_cons.mp hb with z | z
    · exact .inl (by rw [z]; exact List.mem_cons_self)
    · exact (sub b z).imp (fun y => List.mem_cons_of_mem _ y) id
theorem Own.pathF (w0 : WF B F H) : ∀ {p : List PSt} {v : V} {d e : D} {fp : List Addr}, Own K F H (n + p.length) v d fp → fp.Nodup → (∀ a ∈ fp, a ∉ B) → subP d p = some e →
    ∃ v' f', PathV B H v p v' ∧ Own K F H n v' e f' ∧ (∀ a ∈ f', a ∈ fp) ∧ f'.Nodup ∧ ∀ (F' H' : Hp) (e' : D) (g : List Addr), Same F F' → (∀ b ∈ fp, b ∉ f' → ∀ o, H b = some o → H' b = some o) → Own K F' H' n v' e' g → (∀ b ∈ g, b ∈ f' ∨ b ∉ fp) → g.Nodup →
      ∃ fp', Own K F' H' (n + p.length) v (setP d p e') fp' ∧ fp'.Nodup ∧ ∀ b ∈ fp', b ∈ fp ∨ b ∈ g
  | [], v, d, e, fp, o, nd, hB, h => by
    cases h
    exact ⟨v, fp, rfl, o, fun _ h => h, nd, fun F' H' e' g _ _ ho _ hn => ⟨g, ho, hn, fun b hb => .inr hb⟩⟩
  | s :: p, v, d, e, fp, o, nd, hB, h => by
    have o : Own K F H (n + p.length + 1) v d fp := o
    have h : (subD d s).bind (fun e => subP e p) = some e := h
    cases q : subD d s with
    | none => rw [q] at h; cases h
    | some x =>
      rw [q] at h
      obtain ⟨v1, f1, a1, o1, s1, n1, k1⟩ := o.subF w0 nd hB q
      obtain ⟨v2, f2, a2, o2, s2, n2, k2⟩ := Own.pathF w0 (p := p) o1 n1 (fun a ha => hB a (s1 a ha)) h
      refine ⟨v2, f2, ⟨v1, a1, a2⟩, o2, fun a ha => s1 a (s2 a ha), n2, fun F' H' e' g sF hH ho hs hn => ?_⟩
      obtain ⟨g1, o', nd', sub⟩ := k2 F' H' e' g sF (fun b hb hb' => hH b (s1 b hb) hb') ho (fun b hb => (hs b hb).imp id fun z y => z (s1 b y)) hn
      obtain ⟨g2, o3, nd3, sub3⟩ := k1 F' H' (setP x p e') g1 sF (fun b hb hb' => hH b hb fun z => hb' (s2 b z)) o' (fun b hb => by
        rcases sub b hb with z | z
        · exact .inl z
        · exact (hs b z).imp (s2 b) id) nd'
      refine ⟨g2, ?_, nd3, fun b hb => ?_⟩
      · show Own K F' H' (n + p.length + 1) v (match subD d s with
          | some e => setD d s (setP e p e')
          | none => d) g2
        rw [q]
        exact o3
      · rcases sub3 b hb with z | z
        · exact .inl z
        · exact (sub b z).imp (s1 b) id
theorem Own.sub {v : V} {d e : D} {s : PSt} (w0 : WF B F H) (o : Own K F H (n + 1) v d fp) (nd : fp.Nodup) (hB : ∀ a ∈ fp, a ∉ B) (h : subD d s = some e) :
    ∃ v' f', AtV B H v s v' ∧ Own K F H n v' e f' ∧ (∀ a ∈ f', a ∈ fp) ∧ f'.Nodup ∧ ∀ (H' : Hp) (e' : D) (g : List Addr), (∀ b ∈ fp, b ∉ f' → ∀ o, H b = some o → H' b = some o) → Own K F H' n v' e' g → (∀ b ∈ g, b ∈ f' ∨ b ∉ fp) → g.Nodup →
      ∃ fp', Own K F H' (n + 1) v (setD d s e') fp' ∧ fp'.Nodup ∧ ∀ b ∈ fp', b ∈ fp ∨ b ∈ g := by
  obtain ⟨v', f', h1, h2, h3, h4, k⟩ := o.subF w0 nd hB h
  exact ⟨v', f', h1, h2, h3, h4, fun H' e' g => k F H' e' g fun _ _ h => h⟩
theorem Own.path (w0 : WF B F H) {p : List PSt} {v : V} {d e : D} {fp : List Addr} (o : Own K F H (n + p.length) v d fp) (nd : fp.Nodup) (hB : ∀ a ∈ fp, a ∉ B) (h : subP d p = some e) :
    ∃ v' f', PathV B H v p v' ∧ Own K F H n v' e f' ∧ (∀ a ∈ f', a ∈ fp) ∧ f'.Nodup ∧ ∀ (H' : Hp) (e' : D) (g : List Addr), (∀ b ∈ fp, b ∉ f' → ∀ o, H b = some o → H' b = some o) → Own K F H' n v' e' g → (∀ b ∈ g, b ∈ f' ∨ b ∉ fp) → g.Nodup →
      ∃ fp', Own K F H' (n + p.length) v (setP d p e') fp' ∧ fp'.Nodup ∧ ∀ b ∈ fp', b ∈ fp ∨ b ∈ g := by
  obtain ⟨v', f', h1, h2, h3, h4, k⟩ := Own.pathF w0 o nd hB h
  exact ⟨v', f', h1, h2, h3, h4, fun H' e' g => k F H' e' g fun _ _ h => h⟩
end
section
variable {K : PySem.W.Frag} {B fp : List Addr} {Pn : List V} {Z0 F0 F H : Hp} {σ : L2.St} {ρ : Env} {n i : Nat}
theorem StOk.path {d e : D} {p : List PSt} {P : Addr → HO → List Addr → Prop} (S : StOk K B Pn Z0 F0 F H σ ρ fp) (es : slot ρ i = some (n + 1 + p.length, d)) (hs : subP d p = some e)
    (hd : ∀ v f, Own K F H (n + 1) v e f → ∃ a g o, v = .ref a ∧ f = a :: g ∧ H a = some o ∧ P a o g) :
    ∃ v0 a g o, σ[i]? = some (some v0) ∧ PathV B H v0 p (.ref a) ∧ H a = some o ∧ P a o g ∧ a ∉ g ∧ g.Nodup ∧ (∀ b ∈ a :: g, b ∈ fp) ∧ ∀ o' e' g' fc, erO o' = o' → Apart B Z0 F fp fc → (∀ b ∈ g', b ∈ g ∨ b ∈ fc) → g'.Nodup →
      Own K F (upd H a o') (n + 1) (.ref a) e' (a :: g') → ∃ fp', StOk K B Pn Z0 F0 F (upd H a o') σ (ρ.set i (some (n + 1 + p.length, setP d p e'))) fp' := by
  obtain ⟨v, f, fp1, e1, e2, S1, ap1, sub⟩ := S.take es
  obtain ⟨v', f', pv, ow, s2, nd2, k⟩ := Own.path (B := B) S1.wf e2 ap1.2 (fun a ha => (ap1.1 a ha).2.1) hs
  obtain ⟨a, g, o, rfl, rfl, ha, hP⟩ := hd v' f' ow
  obtain ⟨hag, hg⟩ := List.nodup_cons.mp nd2
  have haf : a ∈ f := s2 a List.mem_cons_self
  refine ⟨v, a, g, o, e1, pv, ha, hP, hag, hg, fun b hb => sub b (List.mem_append_right _ (s2 b hb)), fun o' e' g' fc ho ap hsub hn' ho' => ?_⟩
  obtain ⟨h1, h2, h3, h4⟩ := ap1.1 a haf
  have S2 := S1.mut h4 h1 h2 h3 ho
  have hi : i < (ρ.set i none).length := by rw [List.length_set]; exact slot_lt es
  have hac : a ∉ fc := fun z => (ap.1 a z).2.2.2 (sub a (List.mem_append_right _ haf))
  obtain ⟨fp', o3, nd3, sub3⟩ := k (upd H a o') e' (a :: g') (fun b hb hb' u eu => by rw [upd_ne (fun z => hb' (by rw [z]; exact List.mem_cons_self))]; exact eu) ho' (fun b hb => by
    rcases List.mem_cons.mp hb with z | z
    · exact .inl (by rw [z]; exact List.mem_cons_self)
    · rcases hsub b z with y | y
      · exact .inl (List.mem_cons_of_mem _ y)
      · exact .inr fun w => (ap.1 b y).2.2.2 (sub b (List.mem_append_right _ w))) (List.nodup_cons.mpr ⟨fun z => (hsub a z).elim hag hac, hn'⟩)
  have ap' : Apart B Z0 F fp1 fp' := by
    refine ⟨fun b hb => ?_, nd3⟩
    rcases sub3 b hb with q | q
    · exact ap1.1 b q
    · rcases List.mem_cons.mp q with z | z
      · rw [z]; exact ⟨h1, h2, h3, h4⟩
      · rcases hsub b z with q | q
        · exact ap1.1 b (s2 b (List.mem_cons_of_mem _ q))
        · obtain ⟨k1, k2, k3, k4⟩ := ap.1 b q
          exact ⟨k1, k2, k3, fun r => k4 (sub b (List.mem_append_left _ r))⟩
  obtain ⟨fp2, S3⟩ := S2.put (i := i) o3 ap' hi e1
  rw [List.set_set] at S3
  exact ⟨fp2, S3⟩
end
end GK

namespace GK
open PySem PySem.Spec PyProof.Rows L2

/-! ### an expression that names a place -/
abbrev FP := Env → (List PSt → Prop) → Prop
def tP (K : PySem.W.Frag) (B : List Addr) (i : Nat) (g : FP) : TE := fun σ H Q => ∃ F ρ fp R, StOk K B [] noH noH F H σ ρ fp ∧ g ρ R ∧
  ∀ F' H' p v v0, Step B [] F H F' H' → σ[i]? = some (some v0) → PathV B H' v0 p v → R p → Q v H'
abbrev DP (X : Cx) (B : List Addr) (e : Expr) (i : Nat) (g : FP) : Prop := PE X e (tP X.K B i g)
/-- what stands at a place -/
def atP (ρ : Env) (i : Nat) (p : List PSt) (k : Nat → D → D → Prop) : Prop := match slot ρ i with
  | some (m, d) => ∃ n e, m = n + 1 + p.length ∧ subP d p = some e ∧ k n d e
  | none => False
theorem atP.inv {ρ : Env} {i : Nat} {p : List PSt} {k : Nat → D → D → Prop} (h : atP ρ i p k) : ∃ n d e, slot ρ i = some (n + 1 + p.length, d) ∧ subP d p = some e ∧ k n d e := by
  unfold atP at h
  split at h
  · rename_i m d q
    obtain ⟨n, e, rfl, h1, h2⟩ := h
    exact ⟨n, d, e, q, h1, h2⟩
  · exact h.elim
section
variable {K : PySem.W.Frag} {B fp : List Addr} {Pn : List V} {Z0 F0 F H : Hp} {σ : L2.St} {ρ : Env} {n i : Nat}
/-- what is new is apart -/
theorem StOk.apart {F' : Hp} {fx : List Addr} (S : StOk K B Pn Z0 F0 F H σ ρ fp) (ox : ∀ a ∈ fx, (a ∈ ([] : List Addr) ∨ H a = none) ∧ F' a = none ∧ a ∉ B) (nx : fx.Nodup) : Apart B Z0 F' fp fx := by
  refine ⟨fun b hb => ?_, nx⟩
  obtain ⟨h1, h2, h3⟩ := ox b hb
  have hz : H b = none := h1.elim (fun z => by cases z) id
  refine ⟨h2, h3, ?_, fun hm => ?_⟩
  · cases q : Z0 b with
    | none => rfl
    | some u => rw [S.z b u q] at hz; cases hz
  · obtain ⟨u, eu, _⟩ := S.own.there b hm
    rw [hz] at eu; cases eu
/-- a value that a place names -/
theorem StOk.seen {d e : D} {p : List PSt} {v0 v : V} (S : StOk K B Pn Z0 F0 F H σ ρ fp) (es : slot ρ i = some (n + p.length, d)) (hv : σ[i]? = some (some v0)) (hs : subP d p = some e) (hp : PathV B H v0 p v) :
    ∃ f, Own K F H n v e f ∧ f.Nodup ∧ ∀ a ∈ f, a ∉ B := by
  obtain ⟨v1, f, fp1, e1, e2, S1, ap1, sub⟩ := S.take es
  rw [hv] at e1
  cases e1
  obtain ⟨v', f', pv, ow, s2, nd2, k⟩ := Own.path (B := B) S1.wf e2 ap1.2 (fun a ha => (ap1.1 a ha).2.1) hs
  cases hp.det pv
  exact ⟨f', ow, nd2, fun a ha => (ap1.1 a (s2 a ha)).2.1⟩
end
section
variable {X : Cx} {e e2 : Expr} {i : Nat} {g : FP} {fe : FE} {pos p : Pos} {x : Str} {m2 : Mode}
theorem dp_var (i : Nat) (hN : NameOk X i x := by exact ⟨rfl, by first | exact Or.inl rfl | exact Or.inr (Or.inl rfl) | exact Or.inr (Or.inr rfl), by decide, by decide⟩) : DP X B (.Name x pos) i (fun ρ R => (slot ρ i).isSome = true ∧ R []) :=
  PE.imp (pe_var hN.1 hN.2 hN.3 hN.4) fun σ H Q ⟨F, ρ, fp, R, S, ⟨h0, hg⟩, k⟩ => by
    cases q : slot ρ i with
    | none => rw [q] at h0; cases h0
    | some z =>
      obtain ⟨v, f, e1, _⟩ := S.own.slot q
      exact ⟨v, e1, k F H [] v v (Step.refl S.wf) e1 rfl hg⟩
/-- .f -/
theorem dp_fld {C : Addr} {f : Str} (he : DP X B e i g) (c : Cls X.K C) (nf : NoAttr X.K C f) (hb : attributeBase e f X.env (eval e X.env) = eval e X.env := by rfl) :
    DP X B (.Attribute e f pos) i (fun ρ R => g ρ fun p => atP ρ i p fun _ _ x => (∃ es y, x = .obj C es ∧ es.lookup f = some y) ∧ R (p ++ [.fld f])) :=
  PE.imp (pe_fld he hb) fun σ H Q ⟨F, ρ, fp, R, S, hg, k⟩ => by
    refine ⟨F, ρ, fp, _, S, hg, fun F' H' p v v0 s hv hp hR => ?_⟩
    obtain ⟨n', d', x, es', hsub, ⟨ys, y, rfl, hl⟩, hR⟩ := hR.inv
    have S' := S.step s fun a h => (by cases h)
    obtain ⟨f1, ow, nd, hB⟩ := S'.seen es' hv hsub hp
    obtain ⟨w, f2, ⟨a, C', dx, fs, rfl, hb', ha, l⟩, _⟩ := ow.sub S'.wf (s := .fld f) nd hB hl
    obtain ⟨a', dx', fs', g', e1, e2, e3, e4, _⟩ := ow
    cases e1
    rw [ha] at e2
    cases e2
    exact ⟨a, C, dx, fs, w, rfl, ha, c, nf, l, k F' H' (p ++ [.fld f]) w v0 s hv (hp.app (q := .fld f) ⟨a, C, dx, fs, rfl, hb', ha, l⟩) hR⟩
/-- [j] of a list -/
theorem dp_ix (he : DP X B e i g) (hj : DE X B e2 (.own 0) fe) (hs : PlainIx e2 := by exact fun _ _ => rfl) :
    DP X B (.Subscript e e2 pos) i (fun ρ R => g ρ fun p => fe ρ fun j => atP ρ i p fun _ _ x => ∃ ds j' k, x = .lst ds ∧ j = .int j' ∧ ixN ds.length j' = some k ∧ R (p ++ [.ix k])) :=
  PE.imp (pe_ix ix_seq he hj hs) fun σ H Q ⟨F, ρ, fp, R, S, hg, k⟩ => by
    refine ⟨F, ρ, fp, _, S, hg, fun F1 H1 p v v0 s1 hv hp hf => ⟨F1, ρ, fp, _, S.step s1 (fun a h => by cases h), hf, fun F2 H2 w j fj s2 hw oj nj hR => ?_⟩⟩
    obtain ⟨n', d', x, es', hsub, ⟨ds, j', kx, rfl, rfl, hk, hR⟩⟩ := hR.inv
    have S2 := (S.step s1 (fun a h => by cases h)).step s2 fun a h => (by cases h)
    have hp2 := hp.same s2.same
    obtain ⟨f1, ow, nd, hB⟩ := S2.seen es' hv hsub hp2
    obtain ⟨rfl, _⟩ := hw.int
    obtain ⟨a, vs, g', rfl, h1, rfl, t⟩ := ow
    have hlt : kx < ds.length := by
      unfold ixN at hk
      split at hk
      · split at hk
        · cases hk; omega
        · cases hk
      · split at hk
        · cases hk; omega
        · cases hk
    have hl := t.len
    obtain ⟨y, hv'⟩ : ∃ y, vs[kx]? = some y := ⟨_, List.getElem?_eq_getElem (by omega)⟩
    exact .inl ⟨a, vs, j', y, rfl, rfl, SqL.of h1, by unfold atI; rw [hl, hk]; exact hv', k F2 H2 (p ++ [.ix kx]) _ v0 (s1.trans s2 fun a h => (by cases h)) hv (hp2.app (q := .ix kx) ⟨a, vs, rfl, hB a List.mem_cons_self, h1, hv'⟩) hR⟩
/-- [j] of a tuple -/
theorem dp_tx {c : Int} {jj : Nat} {p1 : Pos} (he : DP X B e i g) :
    DP X B (.Subscript e (.Constant (.int c) jj p1) pos) i (fun ρ R => g ρ fun p => atP ρ i p fun _ _ x => ∃ ds k, x = .tup ds ∧ ixN ds.length c = some k ∧ R (p ++ [.tx k])) :=
  PE.imp (pe_ix ix_seq he pe_int fun _ _ => rfl) fun σ H Q ⟨F, ρ, fp, R, S, hg, k⟩ => by
    refine ⟨F, ρ, fp, _, S, hg, fun F1 H1 p v v0 s1 hv hp hR => ?_⟩
    obtain ⟨n', d', x, es', hsub, ⟨ds, kx, rfl, hk, hR⟩⟩ := hR.inv
    have S2 := S.step s1 fun a h => (by cases h)
    obtain ⟨f1, ow, nd, hB⟩ := S2.seen es' hv hsub hp
    obtain ⟨a, vs, rfl, h1, t⟩ := ow
    have hlt : kx < ds.length := by
      unfold ixN at hk
      split at hk
      · split at hk
        · cases hk; omega
        · cases hk
      · split at hk
        · cases hk; omega
        · cases hk
    have hl := t.len
    obtain ⟨y, hv'⟩ : ∃ y, vs[kx]? = some y := ⟨_, List.getElem?_eq_getElem (by omega)⟩
    have h1' := S2.wf.sub a _ h1
    have hB' := (rdH_some h1').1
    have h2 := tup_of S2.wf h1'
    exact .inr (.inl ⟨a, vs, c, y, rfl, rfl, tup_sub S2.wf h1, by unfold atI; rw [hl, hk]; exact hv', k F1 H1 (p ++ [.tx kx]) _ v0 s1 hv (hp.app (q := .tx kx) ⟨a, vs, rfl, hB', h2, hv'⟩) hR⟩)
/-- [k] of a dict -/
theorem dp_key (hu : X.A.units + 1 < cLine) (he : DP X B e i g) (hj : DE X B e2 (.own 0) fe) (hs : NoSl e2 := by exact fun _ _ => rfl) :
    DP X B (.Subscript e e2 pos) i (fun ρ R => g ρ fun p => fe ρ fun j => atP ρ i p fun _ _ x => (∃ es k y, x = .dK es ∧ keyOf j = some k ∧ getD' es k = some y ∧ R (p ++ [.key k])) ∨ ∃ es k y, x = .dT es ∧ keyT j = some k ∧ getD' es k = some y ∧ R (p ++ [.keyT k])) :=
  PE.imp (pe_dget hu he hj hs) fun σ H Q ⟨F, ρ, fp, R, S, hg, k⟩ => by
    refine ⟨F, ρ, fp, _, S, hg, fun F1 H1 p v v0 s1 hv hp hf => ⟨F1, ρ, fp, _, S.step s1 (fun a h => by cases h), hf, fun F2 H2 w j fj s2 hw oj nj hR => ?_⟩⟩
    obtain ⟨n', d', x, es', hsub, hR⟩ := hR.inv
    have S2 := (S.step s1 (fun a h => by cases h)).step s2 fun a h => (by cases h)
    have hp2 := hp.same s2.same
    obtain ⟨f1, ow, nd, hB⟩ := S2.seen es' hv hsub hp2
    rcases hR with ⟨ys, kk, y, rfl, ek, eg, hq⟩ | ⟨ys, kk, y, rfl, ek, eg, hq⟩
    · obtain ⟨w', f2, ⟨a, kvs, rfl, hb', ha, l⟩, _⟩ := ow.sub S2.wf (s := .key kk) nd hB eg
      have ew := keyOf_R ek hw.1
      subst ew
      exact ⟨a, w', rfl, .inl ⟨kvs, kk, .inl ha, rfl, l.symm⟩, k F2 H2 (p ++ [.key kk]) _ v0 (s1.trans s2 fun a h => (by cases h)) hv (hp2.app (q := .key kk) ⟨a, kvs, rfl, hb', ha, l⟩) hq⟩
    · obtain ⟨w', f2, ⟨a, kvs, rfl, hb', ha, l⟩, _⟩ := ow.sub S2.wf (s := .keyT kk) nd hB eg
      cases j <;> try (cases ek; done)
      obtain ⟨ta, ws, rfl, ht, hrl⟩ := hw.1.tupI
      have ew := keysOf_R ek hrl
      subst ew
      exact ⟨a, w', rfl, .inr ⟨kvs, kk, ta, .inl ha, rfl, tup_of S2.wf (S2.wf.sub _ _ ht), l.symm⟩, k F2 H2 (p ++ [.keyT kk]) _ v0 (s1.trans s2 fun a h => (by cases h)) hv (hp2.app (q := .keyT kk) ⟨a, kvs, rfl, hb', ha, l⟩) hq⟩
end
/-! what is done at a place -/
def atLst (ρ : Env) (i n : Nat) (p : List PSt) (k : D → List D → Prop) : Prop := atP ρ i p fun n' d e => n' = n ∧ match e with
  | .lst ds => k d ds
  | _ => False
theorem atLst.inv {ρ : Env} {i n : Nat} {p : List PSt} {k : D → List D → Prop} (h : atLst ρ i n p k) : ∃ d ds, slot ρ i = some (n + 1 + p.length, d) ∧ subP d p = some (.lst ds) ∧ k d ds := by
  obtain ⟨n', d, e, h1, h2, rfl, h3⟩ := atP.inv h
  cases e <;> try exact h3.elim
  exact ⟨d, _, h1, h2, h3⟩
def atDK (ρ : Env) (i n : Nat) (p : List PSt) (k : D → List (Key × D) → Prop) : Prop := atP ρ i p fun n' d e => n' = n ∧ match e with
  | .dK ds => k d ds
  | _ => False
theorem atDK.inv {ρ : Env} {i n : Nat} {p : List PSt} {k : D → List (Key × D) → Prop} (h : atDK ρ i n p k) : ∃ d ds, slot ρ i = some (n + 1 + p.length, d) ∧ subP d p = some (.dK ds) ∧ k d ds := by
  obtain ⟨n', d, e, h1, h2, rfl, h3⟩ := atP.inv h
  cases e <;> try exact h3.elim
  exact ⟨d, _, h1, h2, h3⟩
def atDT (ρ : Env) (i n : Nat) (p : List PSt) (k : D → List (List Key × D) → Prop) : Prop := atP ρ i p fun n' d e => n' = n ∧ match e with
  | .dT ds => k d ds
  | _ => False
theorem atDT.inv {ρ : Env} {i n : Nat} {p : List PSt} {k : D → List (List Key × D) → Prop} (h : atDT ρ i n p k) : ∃ d ds, slot ρ i = some (n + 1 + p.length, d) ∧ subP d p = some (.dT ds) ∧ k d ds := by
  obtain ⟨n', d, e, h1, h2, rfl, h3⟩ := atP.inv h
  cases e <;> try exact h3.elim
  exact ⟨d, _, h1, h2, h3⟩
section
variable {X : Cx} {e e2 o : Expr} {pin n i : Nat} {m mr : Mode} {f : FM} {fe fv : FE} {g : FP} {pos p apos cpos : Pos}
/-- P.append(e) -/
theorem dm_appendP (n : Nat) (ho : DP X B o i g) (he : DE X B e (.own n) fe) (hb : BmOk X o "append" apos e [] cpos := by exact ⟨rfl, rfl, rfl, rfl, rfl⟩) :
    DM X B (.Call (.Attribute o "append" apos) [e] [] cpos) pin m (fun ρ R => g ρ fun p => (atLst ρ i n p fun _ _ => True) ∧ fe ρ fun x => atLst ρ i n p fun d ds => ds.length < sizeLine ∧ R .non (ρ.set i (some (n + 1 + p.length, setP d p (.lst (ds ++ [x])))))) :=
  PE.imp (pe_bm PySem.F.plainAttrs_list PySem.F.slot_list_append PySem.F.type_list_append mt_append ho (pa_cons he pa_nil hb.4) hb.1 hb.2 hb.3 hb.4 hb.5) fun σ H Q ⟨Pn, Z0, F0, F, ρ, fp, R, hpl, S, hg, k⟩ => by
    refine ⟨F, ρ, fp, _, S.base, hg, fun F1 H1 p v v0 s1 hv0 hp ⟨h0, hf⟩ => ?_⟩
    have S1 := S.step s1 fun a h => (by cases h)
    obtain ⟨d, ds, es, hs, _⟩ := h0.inv
    obtain ⟨v1, a, gg, o', hv1, pv, ha, ⟨vs, rfl, _⟩, _⟩ := S1.path es hs own_lst
    rw [hv0] at hv1
    cases hv1
    cases hp.det pv
    refine ⟨.inl ⟨rfl, _, SqL.of ha⟩, F1, ρ, fp, _, S1.base, hf, fun F2 H2 w x fx s2 hw ox nx hx => ?_⟩
    have S2 := S1.step s2 fun a h => (by cases h)
    obtain ⟨d', ds', es', hs', hz, hR⟩ := hx.inv
    obtain ⟨v2, a2, g2, o2, hv2, pv2, ha2, ⟨vs2, rfl, t2⟩, hag, hgn, hin, kk⟩ := S2.path es' hs' own_lst
    rw [hv0] at hv2
    cases hv2
    cases (hp.same s2.same).det pv2
    have ap : Apart B Z0 F2 fp fx := S1.apart ox nx
    have hax : a ∉ fx := fun z => (ap.1 a z).2.2.2 (hin a List.mem_cons_self)
    obtain ⟨fp3, S3⟩ := kk (.lst (vs2 ++ [w])) (.lst (ds' ++ [x])) (g2 ++ fx) fx rfl ap (fun b hb => List.mem_append.mp hb) (nd_of hgn nx fun b hb z => (ap.1 b hb).2.2.2 (hin b (List.mem_cons_of_mem _ z)))
      ⟨a, vs2 ++ [w], g2 ++ fx, rfl, upd_same, rfl, (t2.upd hag).append (OwnL.one (Own.upd (show Own X.K F2 H2 n w x fx from hw) hax))⟩
    exact ⟨a, vs2, w, rfl, rfl, ha2, by rw [t2.len]; exact hz, k F2 _ _ fp3 .non .non [] S3 (Val.atom rfl fun _ => .non) .nil hR⟩
end
end GK

namespace GK
open PySem PySem.Spec PyProof.Rows L2

section
variable {X : Cx} {e e2 o : Expr} {pin n i : Nat} {m mr : Mode} {f : FM} {fe fv : FE} {g : FP} {pos p apos cpos : Pos}
/-- P[j] = e, P a list -/
theorem ds_setPL (n : Nat) (he : DM X B e pin (.own n) f) (ho : DP X B o i g) (hj : DE X B e2 (.own 0) fe)
    (ha : ∀ v, assign (.Subscript o e2 apos) X.env v = (do
      let ov ← holding [v] (eval o X.env)
      let iv ← holding [v, ov] (eval e2 X.env)
      standAt apos
      holding [v, ov, iv] (setItem ov iv v)
      release [v, ov, iv] []) := by intro _; rfl)
    (hs : swapsWithSole [.Subscript o e2 apos] e pos.line X.env = pure false := by rfl) (hw : swappedStores [.Subscript o e2 apos] e X.env = pure none := by rfl)
    (h1 : (assignEach [.Subscript o e2 apos] X.env).map (·.2) = [assign (.Subscript o e2 apos) X.env] := by rfl) :
    DS X B (.Assign [.Subscript o e2 apos] e pos) pin mr (fun E ρ => f ρ fun x ρ' => g ρ' fun p => fe ρ' fun j => atLst ρ' i n p fun d ds => ∃ j' k, j = .int j' ∧ ixN ds.length j' = some k ∧ E.nx (ρ'.set i (some (n + 1 + p.length, setP d p (.lst (ds.set k x)))))) :=
  PS.imp (ps_asg he (pg_sub ho hj set_list ha) hs hw h1) fun Dn σ H ⟨Pn, Z0, F0, F, ρ, fp, E, hpl, S, hf, L⟩ => by
    refine ⟨Pn, Z0, F0, F, ρ, fp, _, hpl, S, hf, fun F' H' ρ' fp' v x f' S' hv ap hg => ?_⟩
    refine ⟨F', ρ', fp', _, S'.base, hg, fun F1 H1 p w v0 s1 hv0 hp hf => ?_⟩
    have S1 := S'.step s1 fun a h => (by cases h)
    refine ⟨F1, ρ', fp', _, S1.base, hf, fun F2 H2 y j fj s2 hw oj nj hR => ?_⟩
    have S2 := S1.step s2 fun a h => (by cases h)
    obtain ⟨d, ds, es, hs, j', kx, rfl, hk, hR⟩ := hR.inv
    obtain ⟨rfl, _⟩ := hw.int
    obtain ⟨v2, a, g2, o2, hv2, pv2, ha2, ⟨vs, rfl, t⟩, hag, hgn, hin, kk⟩ := S2.path es hs own_lst
    rw [hv0] at hv2
    cases hv2
    cases (hp.same s2.same).det pv2
    have s12 := s1.trans s2 fun a h => (by cases h)
    have ap2 : Apart B Z0 F2 fp' f' := ⟨fun b hb => by
      obtain ⟨q1, q2, q3, q4⟩ := ap.1 b hb
      obtain ⟨o, eo, mu⟩ := hv.there b hb
      exact ⟨s12.out eo mu q2 q1 (fun z => (by cases z)), q2, q3, q4⟩, ap.2⟩
    have hv2 : Own X.K F2 H2 n v x f' := Val.step (m := .own n) hv s12 fun b hb => (ap.1 b hb).2.1
    have haf : a ∉ f' := fun z => (ap2.1 a z).2.2.2 (hin a List.mem_cons_self)
    obtain ⟨g3, o3, sub, nd⟩ := OwnL.set hv2 kx t (nd_of hgn ap.2 fun b hb z => (ap2.1 b hb).2.2.2 (hin b (List.mem_cons_of_mem _ z)))
    have hag3 : a ∉ g3 := fun z => (sub a z).elim hag haf
    obtain ⟨fp3, S3⟩ := kk (.lst (vs.set kx v)) (.lst (ds.set kx x)) g3 f' rfl ap2 sub nd ⟨a, vs.set kx v, g3, rfl, upd_same, rfl, o3.upd hag3⟩
    exact ⟨a, vs, j', kx, rfl, rfl, ha2, by rw [t.len]; exact hk, L.nx F2 _ _ _ fp3 S3 hR⟩
/-- P[k] = e, P a dict, what is kept may be read -/
theorem ds_putP (hu : X.A.units + 1 < cLine) (he : DM X B e pin (.own 0) f) (ho : DP X B o i g) (hj : DE X B e2 (.own 0) fe) (hs : swapsWith e (some (.Subscript o e2 apos)) pos.line X.env = pure false := by rfl) :
    DS X B (.Assign [.Subscript o e2 apos] e pos) pin mr (fun E ρ => f ρ fun x ρ' => g ρ' fun p => fe ρ' fun j => atP ρ' i p fun n' d y => n' = 0 ∧ ∃ y', putDD y j x = some y' ∧ E.nx (ρ'.set i (some (1 + p.length, setP d p y')))) :=
  PS.imp (ps_dput hu ho hj he hs) fun Dn σ H ⟨Pn, Z0, F0, F, ρ, fp, E, hpl, S, hf, L⟩ => by
    refine ⟨Pn, Z0, F0, F, ρ, fp, _, hpl, S, hf, fun F' H' ρ' fp' v x f' S' hv ap hg => ?_⟩
    refine ⟨F', ρ', fp', _, S'.base, hg, fun F1 H1 p w v0 s1 hv0 hp hf => ?_⟩
    have S1 := S'.step s1 fun a h => (by cases h)
    refine ⟨F1, ρ', fp', _, S1.base, hf, fun F2 H2 y j fj s2 hw oj nj hR => ?_⟩
    have S2 := S1.step s2 fun a h => (by cases h)
    obtain ⟨n', d, y0, es, hs, rfl, y', hy, hR⟩ := hR.inv
    have s12 := s1.trans s2 fun a h => (by cases h)
    obtain ⟨hv0', rfl⟩ := (show Own X.K F' H' 0 v x f' from hv)
    have hx := R.mono s12.fs hv0'
    have hpp := hp.same s2.same
    cases y0 <;> try (cases hy; done)
    · rename_i ys
      obtain ⟨v2, a, g2, o2, hv2, pv2, ha2, ⟨kvs, rfl, hk, t⟩, hag, hgn, hin, kk⟩ := S2.path es hs own_dK
      rw [hv0] at hv2
      cases hv2
      cases hpp.det pv2
      obtain ⟨u, dp, eu, ow⟩ := dput_ok (Da := a) (acc := .dK ys) S2.wf (show Own X.K F2 H2 1 (.ref a) (.dK ys) [a] from ⟨a, kvs, [], rfl, ha2, rfl, hk, OwnL.zero t.toRL0⟩) hw.1 hx hy
      obtain ⟨fp3, S3⟩ := kk u y' [] [] eu .nil (fun b h => (by cases h)) List.nodup_nil ow
      exact ⟨a, _, rfl, dp, L.nx F2 _ _ _ fp3 S3 (by rw [Nat.zero_add]; exact hR)⟩
    · rename_i ys
      obtain ⟨v2, a, g2, o2, hv2, pv2, ha2, ⟨kvs, rfl, hk, t⟩, hag, hgn, hin, kk⟩ := S2.path es hs own_dT
      rw [hv0] at hv2
      cases hv2
      cases hpp.det pv2
      obtain ⟨u, dp, eu, ow⟩ := dput_ok (Da := a) (acc := .dT ys) S2.wf (show Own X.K F2 H2 1 (.ref a) (.dT ys) [a] from ⟨a, kvs, [], rfl, ha2, rfl, hk, OwnL.zero t.toRL0⟩) hw.1 hx hy
      obtain ⟨fp3, S3⟩ := kk u y' [] [] eu .nil (fun b h => (by cases h)) List.nodup_nil ow
      exact ⟨a, _, rfl, dp, L.nx F2 _ _ _ fp3 S3 (by rw [Nat.zero_add]; exact hR)⟩
end
end GK

namespace GK
open PySem PySem.Spec PyProof.Rows L2

/-! ### texts -/
/-- a text times an int -/
def repS (z : Str) (n : Int) : Str := ⟨((List.replicate n.toNat z.cps.toList).flatten).toArray⟩
theorem foldl_app (l : List (Array Nat)) : ∀ (a : Array Nat), (l.foldl (· ++ ·) a).toList = a.toList ++ (l.map Array.toList).flatten := by
  induction l with
  | nil => intro a; simp
  | cons x r ih => intro a; rw [List.foldl_cons, ih]; simp
theorem repS_of (z : Str) (n : Int) : (⟨(List.replicate n.toNat z.cps).foldl (· ++ ·) #[]⟩ : Str) = repS z n := by
  unfold repS
  congr 1
  apply Array.toList_inj.mp
  rw [foldl_app, List.map_replicate]
  simp
theorem repS_len (z : Str) (n : Int) : (repS z n).length = n.toNat * z.length := by
  unfold repS Str.length
  simp
theorem op_repS {X : Cx} : OpR X (binaryOp .Mult) (fun x y H Q => ∃ z n, x = .str z ∧ y = .int n ∧ -(2 ^ 63) ≤ n ∧ n < 2 ^ 63 ∧ n.toNat * z.length ≤ sizeLine ∧ Q (.str (repS z n)) H) := by
  intro pins s σ H x y v u Q I rx ry ⟨z, n, e1, e2, h1, h2, h3, q⟩
  subst e1
  subst e2
  obtain ⟨t, rfl⟩ := rx
  obtain ⟨t', rfl⟩ := ry
  have hs : (sizeLine : Nat) = 16777216 := by decide
  have fin : ∀ (w : Str), w = repS z n → (w.length ≤ sizeLine ∧ EP X pins σ Q (.str w s.toks) { s with toks := s.toks + 1 }) := fun w e => by
    subst e
    exact ⟨by rw [repS_len]; exact h3, .str _, H, I.tok _, ⟨_, rfl⟩, q⟩
  refine PySem.P.mul_str ?_ (fun g1 _ => ?_) (fun g1 _ => ?_) ?_
  · rw [decide_eq_false (by omega), decide_eq_false (by omega)]; rfl
  · have hn : (n.toNat : Int) = n := Int.toNat_of_nonneg (by omega)
    have hp : 0 < n := by omega
    have hh : ((n.toNat * z.length : Nat) : Int) ≤ 16777216 := by omega
    have h4 : (z.length : Int) * n ≤ 2 ^ 63 - 1 := by
      rw [← hn, Int.mul_comm]
      rw [Int.natCast_mul] at hh
      omega
    have := Int.le_ediv_of_mul_le hp h4
    omega
  · have : ¬ (z.length * n.toNat > sizeLine) := by rw [Nat.mul_comm]; omega
    unfold Builtin.Str.tooLong
    exact decide_eq_false this
  · split
    · rename_i hlt
      refine fin Str.empty ?_
      have h0 : n.toNat = 0 := by omega
      unfold repS
      rw [h0]
      rfl
    · split
      · rename_i hn1 hc
        refine ⟨.str z, H, I, ⟨_, rfl⟩, ?_⟩
        have e : repS z n = z := by
          rw [Bool.or_eq_true] at hc
          unfold repS
          rcases hc with hc | hc
          · have : n = 1 := by simpa using hc
            subst this
            simp
          · have h0 : z.length = 0 := by simpa using hc
            have h0' : z.cps = #[] := by
              apply Array.eq_empty_of_size_eq_zero
              exact h0
            have ez : z = ⟨#[]⟩ := by cases z; simp_all
            rw [ez]
            simp
        rw [e] at q
        exact q
      · exact fin _ (repS_of z n)
def gCatS : D → D → (D → Prop) → Prop
  | .str a, .str b, R => a.length + b.length ≤ sizeLine ∧ R (.str (a ++ b))
  | _, _, _ => False
def gRepS : D → D → (D → Prop) → Prop
  | .str a, .int n, R => -(2 ^ 63) ≤ n ∧ n < 2 ^ 63 ∧ n.toNat * a.length ≤ sizeLine ∧ R (.str (repS a n))
  | _, _, _ => False
section
variable {X : Cx} {a b e : Expr} {pos apos cpos : Pos} {m m1 m2 : Mode} {f f' : FE}
theorem de_catS (ha : DE X B a m1 f) (hb : DE X B b m2 f') : DE X B (.BinOp a .Add b pos) m (fBin gCatS f f') := de_op op_add_str (by
  intro B F H x y d e fp R Q w ⟨f1, f2, ef, hx, hy⟩ _ hg k
  cases d <;> cases e <;> try exact (show False from hg).elim
  obtain ⟨rfl, _⟩ := hx.str
  obtain ⟨rfl, _⟩ := hy.str
  exact ⟨_, _, rfl, rfl, hg.1, k.str w hg.2⟩) ha hb
theorem de_repS (ha : DE X B a m1 f) (hb : DE X B b m2 f') : DE X B (.BinOp a .Mult b pos) m (fBin gRepS f f') := de_op op_repS (by
  intro B F H x y d e fp R Q w ⟨f1, f2, ef, hx, hy⟩ _ hg k
  cases d <;> cases e <;> try exact (show False from hg).elim
  obtain ⟨rfl, _⟩ := hx.str
  obtain ⟨rfl, _⟩ := hy.int
  exact ⟨_, _, rfl, rfl, hg.1, hg.2.1, hg.2.2.1, k.str w hg.2.2.2⟩) ha hb
def strD : D → Prop
  | .str _ => True
  | _ => False
def gFind : D → List D → (D → Prop) → Prop
  | .str a, [.str b], R => R (.int (Txt.find a b))
  | _, _, _ => False
/-- z.find(y) -/
theorem de_find {o : Expr} (ho : DE X B o m1 f) (ha : DE X B e m2 f') (hb : BmOk X o "find" apos e [] cpos := by exact ⟨rfl, rfl, rfl, rfl, rfl⟩) : DE X B (.Call (.Attribute o "find" apos) [e] [] cpos) m (fun ρ R => f ρ fun d => strD d ∧ fCons f' fNil ρ fun ds => gFind d ds R) :=
  de_M PySem.F.plainAttrs_str PySem.F.slot_str_find PySem.F.type_str_find mt_find ⟨fun B F H x d fp w hv hf h => by
    cases d <;> try exact h.elim
    obtain ⟨rfl, _⟩ := hv.str
    exact (rfl : "str" = "str"), fun B F H x d vs ds fp R Q w ⟨f1, f2, ef, hx, hv⟩ hf hg k => by
    unfold gFind at hg
    split at hg
    · obtain ⟨rfl, _⟩ := hx.str
      obtain ⟨v, rfl, hw⟩ := ValL.one hv
      obtain ⟨rfl, _⟩ := hw.str
      exact ⟨_, _, rfl, rfl, k.int w hg⟩
    · exact hg.elim⟩ ho (da_cons ha da_nil hb.4) hb
end
end GK

namespace GK
open PySem PySem.Spec PyProof.Rows L2

/-! ### sorted, list, sum, isinstance, in -/
def leD : D → D → Bool := PySem.W.dataLe false toP
inductive Pr (P : V → D → Prop) : List V → List D → Prop where
  | nil : Pr P [] []
  | cons {v : V} {d : D} {vs : List V} {ds : List D} (h : P v d) (t : Pr P vs ds) : Pr P (v :: vs) (d :: ds)
theorem each_pr {P : V → D → Prop} : ∀ {us : List Value} {ds : List D}, PySem.W.EachIs (fun u d => ∃ v, RelV v u ∧ P v d) us ds → ∃ vs, Vals vs us ∧ Pr P vs ds
  | _, _, .nil => ⟨[], .nil, .nil⟩
  | _, _, .cons ⟨v, r, p⟩ t => by
    obtain ⟨vs, h1, h2⟩ := each_pr t
    exact ⟨v :: vs, .cons r h1, .cons p h2⟩
theorem pr_each {P : V → D → Prop} : ∀ {vs : List V} {us : List Value} {ds : List D}, Vals vs us → Pr P vs ds → PySem.W.EachIs (fun u d => ∃ v, RelV v u ∧ P v d) us ds
  | _, _, _, .nil, .nil => .nil
  | _, _, _, .cons r t, .cons p q => .cons ⟨_, r, p⟩ (pr_each t q)
def rSortD (K : PySem.W.Frag) : List V → Hp → VK → Prop := fun vs H Q => ∃ (a : Addr) (xs : List V) (ds : List D) (P : V → D → Prop), vs = [.ref a] ∧ SqL K H a xs ∧ Pr P xs ds ∧ (∀ v d, P v d → d ∈ ds → Dp K H v (toP d)) ∧
  PySem.W.AllAlike (ds.map toP) ∧ PySem.W.Sortable (ds.map toP) ∧ (∀ d ∈ ds, (toP d).depth ≤ 64) ∧ ∀ ys p, Pr P ys (ds.mergeSort leD) → H p = none → Q (.ref p) (upd H p (.lst ys))
theorem each_memD {R : Value → D → Prop} : ∀ {us : List Value} {ds : List D}, PySem.W.EachIs R us ds → PySem.W.EachIs (fun u d => R u d ∧ d ∈ ds) us ds
  | _, _, .nil => .nil
  | _, _, .cons h t => .cons ⟨h, List.mem_cons_self⟩ ((each_memD t).mono fun _ _ ⟨a, b⟩ => ⟨a, List.mem_cons_of_mem _ b⟩)
theorem cr_sortD {X : Cx} (hu : X.A.units + 67 < cLine) : CallR X (.builtin "sorted") (rSortD X.K) := by
  intro pins s σ H vs us Q I r ⟨a, xs, ds, P, e, hs, hp, hd, hal, hso, hde, q⟩
  subst e
  obtain ⟨its, rv, hl, hz⟩ := I.list hs
  rw [Vals.ref1 r]
  have ev := pr_each rv hp
  have er : PySem.W.EachIs (fun u d => ∃ as, Reads s.heap u (toP d) as) its ds := (each_memD ev).mono fun u d ⟨⟨v, r, p⟩, hm⟩ => Dp.reads I (toP d) v u (hd v d p hm) r
  have lz : ds.length ≤ sizeLine := by rw [← ev.length, ← rv.length]; exact hz
  refine PySem.W.sorted_data hl.isList ev er hal hso lz (fun d hm => by have := hde d hm; omega) fun out hlen eo => ?_
  obtain ⟨ys, h1, h2⟩ := each_pr eo
  obtain ⟨ep, he'⟩ := PyProof.Rows.sortedAll_at s.heap its out.toArray
  exact ⟨.ref _, upd H (s.heap.objs.size + 1) (.lst ys), I.laid (t' := s.toks) (fun _ _ => PyProof.Rows.sortedAll_old) (Nat.le_succ _) ⟨by rw [h1.length, hlen]; exact lz, out, ep, h1, he'⟩, rfl, q _ _ h2 (I.hok.fresh (Nat.le_succ _))⟩
theorem pr_rl {K : PySem.W.Frag} {F : Hp} : ∀ {vs : List V} {ds : List D}, Pr (R K F) vs ds → RL K F vs ds
  | _, _, .nil => .nil
  | _, _, .cons h t => .cons h (pr_rl t)
theorem rl_pr {K : PySem.W.Frag} {F : Hp} : ∀ {vs : List V} {ds : List D}, RL K F vs ds → Pr (R K F) vs ds
  | _, _, .nil => .nil
  | _, _, .cons h t => .cons h (rl_pr t)
def sortOk (ds : List D) : Prop := (∀ d ∈ ds, okD 64 d = true) ∧ PySem.W.AllAlike (ds.map toP) ∧ PySem.W.Sortable (ds.map toP)
def gSort : List D → (D → Prop) → Prop
  | [.lst ds], R => sortOk ds ∧ R (.lst (ds.mergeSort leD))
  | _, _ => False
theorem opN_sort {K : PySem.W.Frag} {m1 : Mode} (h1 : m1.flat1 = true) : OpN K (rSortD K) [m1] (.own 1) gSort := by
  intro B F H vs ds fp R Q w hv hf hg k
  unfold gSort at hg
  split at hg
  · obtain ⟨v, rfl, h⟩ := hv.one
    obtain ⟨a, xs, rfl, ha, r⟩ := h.lstRL h1 w
    exact ⟨a, xs, _, GK.R K F, rfl, SqL.of ha, rl_pr r, fun v d r hm => GK.R.dp (hg.1.1 d hm) (r.mono w.sub), hg.1.2.1, hg.1.2.2, fun d hm => (okD_can (hg.1.1 d hm)).2, fun ys p hy hz => k.newLst0 w (pr_rl hy) hg.2 hz⟩
  · exact hg.elim
def gListL : List D → (D → Prop) → Prop
  | [.lst ds], R => R (.lst ds)
  | _, _ => False
def gListT : List D → (D → Prop) → Prop
  | [.tup ds], R => R (.lst ds)
  | _, _ => False
def gListK : List D → (D → Prop) → Prop
  | [d], R => ∃ ks, keysD d = some ks ∧ R (.lst ks)
  | _, _ => False
theorem opN_listL {K : PySem.W.Frag} {m1 : Mode} (h1 : m1.flat1 = true) : OpN K (fun xs H Q => ∃ p ys, xs = [.ref p] ∧ (SqL K H p ys ∨ SqT K H p ys) ∧ ∀ l, H l = none → Q (.ref l) (upd H l (.lst ys))) [m1] (.own 1) gListL := by
  intro B F H vs ds fp R Q w hv hf hg k
  unfold gListL at hg
  split at hg
  · obtain ⟨v, rfl, h⟩ := hv.one
    obtain ⟨a, xs, rfl, ha, r⟩ := h.lstRL h1 w
    exact ⟨a, xs, rfl, .inl (SqL.of ha), fun l hl => k.newLst0 w r hg hl⟩
  · exact hg.elim
theorem opN_listT {K : PySem.W.Frag} : OpN K (fun xs H Q => ∃ p ys, xs = [.ref p] ∧ (SqL K H p ys ∨ SqT K H p ys) ∧ ∀ l, H l = none → Q (.ref l) (upd H l (.lst ys))) [.own 0] (.own 1) gListT := by
  intro B F H vs ds fp R Q w hv hf hg k
  unfold gListT at hg
  split at hg
  · obtain ⟨v, rfl, h⟩ := hv.one
    obtain ⟨a, xs, rfl, ha, r⟩ := (show GK.R K F v _ from h.1).tupI
    exact ⟨a, xs, rfl, .inr (sqT_rd (w.sub _ _ ha)), fun l hl => k.newLst0 w r hg hl⟩
  · exact hg.elim
theorem BagOk.noTup {B : List Addr} {H : Hp} (b : BagOk B H) {a : Addr} {vs : List V} (h : H a = some (.tup vs)) : a ∉ B := by
  intro hm
  rcases b with e | ⟨b, c, l, ts, cells, left, turn, e, ht, h1, h2, h3, _⟩
  · rw [e] at hm; cases hm
  · rw [e] at hm
    rcases List.mem_cons.mp hm with z | hm
    · subst z; rw [h1] at h; cases h
    · rcases List.mem_cons.mp hm with z | hm
      · subst z; rw [h2] at h; cases h
      · rcases List.mem_cons.mp hm with z | hm
        · subst z; rw [h3] at h; cases h
        · obtain ⟨o, xs, q⟩ := ht a hm
          rw [q] at h; cases h
theorem keys_rl {K : PySem.W.Frag} {G H : Hp} (hG : ∀ a vs, H a = some (.tup vs) → G a = some (.tup vs)) : ∀ {kvs : List (List Key × V)} {bs : List Addr}, Paired (fun p b => H b = some (.tup (p.1.map kV))) kvs bs → RL K G (bs.map V.ref) (kvs.map fun p => D.tup (p.1.map keyD))
  | _, _, .nil => .nil
  | _, _, .cons h t => .cons (.tup (hG _ _ h) (keysD_RL _)) (keys_rl hG t)
theorem opN_listK {K : PySem.W.Frag} {m1 : Mode} (h1 : m1.look = true) : OpN K (fun xs H Q => (∃ (a : Addr) (kvs : List (Key × V)), xs = [.ref a] ∧ Rd H a (.dK kvs) ∧ ∀ p, H p = none → Q (.ref p) (upd H p (.lst (kvs.map fun kv => kV kv.1)))) ∨
    ∃ d kvs, xs = [V.ref d] ∧ Rd H d (.dT kvs) ∧ ∀ p bs, H p = none → IsKeys H kvs bs → Q (.ref p) (upd H p (.lst (bs.map V.ref)))) [m1] (.own 1) gListK := by
  intro B F H vs ds fp R Q w hv hf hg k
  unfold gListK at hg
  split at hg
  · rename_i d
    obtain ⟨ks, ek, hR⟩ := hg
    obtain ⟨v, rfl, h⟩ := hv.one
    cases d <;> try (cases ek; done)
    · rename_i es
      obtain ⟨_, a, kvs, rfl, hr, hk, it⟩ := h.dK h1 w
      have ek' := Option.some.inj ek
      subst ek'
      refine .inl ⟨a, kvs, rfl, hr, fun p hp => ?_⟩
      have e1 : (kvs.map fun kv => kV kv.1) = (kvs.map (·.1)).map kV := by rw [List.map_map]; rfl
      have e2 : (es.map fun e => keyD e.1) = (es.map (·.1)).map keyD := by rw [List.map_map]; rfl
      rw [e1, hk]
      rw [e2] at hR
      exact k.newLst0 w (keysD_RL _) hR hp
    · rename_i es
      obtain ⟨_, a, kvs, rfl, hr, hk, it⟩ := h.dT h1 w
      have ek' := Option.some.inj ek
      subst ek'
      refine .inr ⟨a, kvs, rfl, hr, fun p bs hp hb => ?_⟩
      have e2 : (es.map fun e => D.tup (e.1.map keyD)) = kvs.map fun e => D.tup (e.1.map keyD) := by
        have : ∀ (l : List (List Key)), (l.map fun k => D.tup (k.map keyD)) = l.map fun k => D.tup (k.map keyD) := fun _ => rfl
        have a1 : (es.map fun e => D.tup (e.1.map keyD)) = (es.map (·.1)).map fun k => D.tup (k.map keyD) := by rw [List.map_map]; rfl
        have a2 : (kvs.map fun e => D.tup (e.1.map keyD)) = (kvs.map (·.1)).map fun k => D.tup (k.map keyD) := by rw [List.map_map]; rfl
        rw [a1, a2, hk]
      rw [e2] at hR
      have s := (Step.refl (A := fp) w).addT
      exact (k.after s (A1 := fp) fun a ha => .inl ha).newLst0 s.wf (keys_rl (fun a vs h => addT_tup w.sub (rdH_of (w.bag.noTup h) h rfl)) hb) hR hp
  · exact hg.elim
def intsOf : List D → Option (List Int)
  | [] => some []
  | .int i :: ds => (intsOf ds).map (i :: ·)
  | _ => none
theorem ints_of {ds : List D} {ns : List Int} (h : intsOf ds = some ns) : ds = ns.map D.int := by
  induction ds generalizing ns with
  | nil => cases h; rfl
  | cons d r ih =>
    cases d <;> try (cases h; done)
    rename_i i
    have h : (intsOf r).map (i :: ·) = some ns := h
    cases q : intsOf r with
    | none => rw [q] at h; cases h
    | some l =>
      rw [q] at h
      cases h
      rw [ih q]; rfl
theorem Items.ints {K : PySem.W.Frag} {m : Mode} {B : List Addr} {F H : Hp} {vs : List V} {ns : List Int} (it : Items K m B F H vs (ns.map D.int)) : vs = ns.map V.int := by
  refine List.ext_getElem? fun i => ?_
  cases q : ns[i]? with
  | none =>
    have hl := List.getElem?_eq_none_iff.mp q
    rw [List.getElem?_eq_none (by rw [it.1, List.length_map]; exact hl), List.getElem?_eq_none (by rw [List.length_map]; exact hl)]
  | some n =>
    have e : (ns.map D.int)[i]? = some (.int n) := by rw [List.getElem?_map, q]; rfl
    obtain ⟨x, h1, h2⟩ := it.2 i _ e
    obtain ⟨rfl, _⟩ := h2.int
    rw [h1, List.getElem?_map, q]; rfl
def gSum : List D → (D → Prop) → Prop
  | [.lst ds], R => ∃ ns, intsOf ds = some ns ∧ R (.int ns.sum)
  | _, _ => False
theorem opN_sum {K : PySem.W.Frag} {m1 m : Mode} (h1 : m1.look = true) : OpN K (rSum K) [m1] m gSum := by
  intro B F H vs ds fp R Q w hv hf hg k
  unfold gSum at hg
  split at hg
  · obtain ⟨ns, e, hR⟩ := hg
    obtain ⟨v, rfl, h⟩ := hv.one
    obtain ⟨_, a, xs, rfl, ha, it⟩ := h.lst h1 w
    have e' := ints_of e
    subst e'
    have := it.ints
    subst this
    exact ⟨a, ns, rfl, ha, k.int w hR⟩
  · exact hg.elim
/-! the type of a value -/
def tyD : D → Option Value
  | .non => some (.type "NoneType")
  | .bl _ => some (.type "bool")
  | .int _ => some (.type "int")
  | .str _ => some (.type "str")
  | .tup _ => some (.type "tuple")
  | .lst _ => some (.type "list")
  | .dK _ => some (.type "dict")
  | .dT _ => none
  | .obj C _ => some (.ref C)
  | .raw _ => none
  | .kp _ => none
/-- what is to be known of a class for isinstance -/
structure IsiC (K : PySem.W.Frag) (C : Addr) : Prop where
  cl : Cls K C
  ha : PySem.W.findIn K (.ref C) "__class__" = some (some (.builtin "object.__class__"))
  hn : PySem.W.specialIn K (.builtin "object.__class__") "__get__" = some (some (.builtin "getset_descriptor.__get__"))
  ht : PySem.W.takesIn K (.builtin "object.__class__") = some true
  hm : PySem.W.mroIn K C (.type "object") = some true
def clV : V → Option Value
  | .ty n => some (.type n)
  | .ref C => some (.ref C)
  | _ => none
def gIsi (K : PySem.W.Frag) : List D → (D → Prop) → Prop
  | [d, .raw c], R => ∃ t u b, tyD d = some t ∧ clV c = some u ∧ PySem.W.kitOne K t u = some b ∧ (∀ C es, d = .obj C es → IsiC K C) ∧ R (.bl b)
  | _, _ => False
end GK

namespace GK
open PySem PySem.Spec PyProof.Rows L2

section
variable {K : PySem.W.Frag} {m m1 m2 : Mode}
theorem Val.tyX {B fp : List Addr} {F H : Hp} {v : V} {d : D} {t : Value} (hm : m.look = true) (w : WF B F H) (h : Val K m B F H v d fp) (e : tyD d = some t) (hc : ∀ C es, d = .obj C es → IsiC K C) : TyX K H v t := by
  cases d <;> try (cases e; done)
  · cases e; obtain ⟨rfl, _⟩ := h.non; exact .base .non
  · cases e; obtain ⟨rfl, _⟩ := h.bl; exact .base (.bl _)
  · cases e; obtain ⟨rfl, _⟩ := h.int; exact .base (.int _)
  · cases e; obtain ⟨rfl, _⟩ := h.str; exact .base (.str _)
  · cases e
    obtain ⟨_, a, vs, rfl, hs, _⟩ := h.tup hm w
    rcases hs with hs | ⟨o, its, n, hk, h1, _⟩
    · rcases hs with hs | ⟨o, hs⟩
      · exact .base (.tup hs)
      · exact .fTuple hs
    · exact .kTuple hk h1
  · cases e
    obtain ⟨_, a, vs, rfl, hs, _⟩ := h.lst hm w
    rcases hs with hs | ⟨o, its, n, hk, h1, _⟩
    · rcases hs with hs | ⟨o, hs⟩
      · exact .base (.lst hs)
      · exact .base (.frz hs)
    · exact .kList hk h1
  · cases e
    obtain ⟨_, a, kvs, rfl, hr, _⟩ := h.dK hm w
    rcases hr with hs | ⟨o, hs⟩
    · exact .base (.dK hs)
    · exact .fDict hs
  · cases e
    rename_i C es
    obtain ⟨_, a, dx, fs, rfl, ha, _⟩ := h.obj hm w
    have c := hc C es rfl
    exact .base (.ins ha c.cl c.ha c.hn c.ht c.hm)
theorem raw_v {B fp : List Addr} {F H : Hp} {v c : V} (h : Val K m B F H v (.raw c) fp) : v = c := by
  cases m with
  | rd => cases h.1; rfl
  | bor n =>
    obtain ⟨⟨f, h, _⟩, _⟩ := h
    cases n with
    | zero => cases h.1; rfl
    | succ n => cases h.1; rfl
  | own n =>
    cases n with
    | zero => cases (show Own K F H 0 v _ fp from h).1; rfl
    | succ n => cases (show R K F v _ ∧ _ from h).1; rfl
theorem clV_ok {c : V} {u : Value} (h : clV c = some u) : ClsV c u := by
  cases c <;> try (cases h; done)
  · cases h; exact .own _
  · cases h; exact .ty _
theorem opN_isi (hm : m1.look = true) : OpN K (rIsi K) [m1, m2] m (gIsi K) := by
  intro B F H vs ds fp R Q w hv hf hg k
  unfold gIsi at hg
  split at hg
  · obtain ⟨t, u, b, e1, e2, e3, hc, hR⟩ := hg
    obtain ⟨v, v', f, f', rfl, h, h', _⟩ := hv.two
    have := raw_v h'
    subst this
    exact ⟨v, _, t, u, b, rfl, clV_ok e2, h.tyX hm w e1 hc, e3, k.bl w hR⟩
  · exact hg.elim
end
section
variable {X : Cx} {e e2 : Expr} {x : Str} {p pos : Pos} {m m1 m2 : Mode} {f f' : FE}
theorem de_ty {T : String} (hg : Gl X x) (hm : X.mg x = none) (hv : bootBuiltins x = some (.type T)) (hn : x ≠ "__name__" := by decide) (hd : (x == ("__debug__" : Str)) = false := by decide) : DE X B (.Name x pos) m (fun _ R => R (.raw (.ty T))) :=
  PE.imp (pe_bltn hg hm hv (v := .ty T) rfl hn hd) fun σ H Q ⟨F, ρ, fp, R, S, hf, k⟩ => k.at S.wf rfl (fun _ => .raw _) hf
/-- a class, a def of the module -/
theorem de_glb {a : Addr} (hg : Gl X x) (hm : X.mg x = some (.ref a)) (hd : (x == ("__debug__" : Str)) = false := by decide) : DE X B (.Name x pos) m (fun _ R => R (.raw (.ref a))) :=
  PE.imp (pe_glob hg hm (v := .ref a) rfl hd) fun σ H Q ⟨F, ρ, fp, R, S, hf, k⟩ => k.at S.wf rfl (fun _ => .raw _) hf
/-- a constant of the module that is an int or a text -/
theorem de_gint {i : Int} {t : Tok} (hg : Gl X x) (hm : X.mg x = some (.int i t)) (hd : (x == ("__debug__" : Str)) = false := by decide) : DE X B (.Name x pos) m (fun _ R => R (.int i)) :=
  PE.imp (pe_glob hg hm (v := .int i) ⟨_, rfl⟩ hd) fun σ H Q ⟨F, ρ, fp, R, S, hf, k⟩ => k.int S.wf hf
theorem de_gstr {i : Str} {t : Tok} (hg : Gl X x) (hm : X.mg x = some (.str i t)) (hd : (x == ("__debug__" : Str)) = false := by decide) : DE X B (.Name x pos) m (fun _ R => R (.str i)) :=
  PE.imp (pe_glob hg hm (v := .str i) ⟨_, rfl⟩ hd) fun σ H Q ⟨F, ρ, fp, R, S, hf, k⟩ => k.str S.wf hf
theorem de_isi (hz : X.mg "isinstance" = none) (ha : DE X B e m1 f) (hb : DE X B e2 m2 f') (hm : m1.look = true := by rfl) (hg : Gl X "isinstance" := by rfl) (he : starEach [e, e2] X.env = (false, eval e X.env) :: starEach [e2] X.env := by rfl) (he2 : starEach [e2] X.env = (false, eval e2 X.env) :: starEach [] X.env := by rfl) (hpl : (backTo pos (starEach [e2] X.env)).any (·.1) = false := by rfl) :
    DE X B (.Call (.Name "isinstance" p) [e, e2] [] pos) m (fArgs (gIsi X.K) (fCons f (fCons f' fNil))) := de_B call_isi (opN_isi hm) hg hz (by decide +kernel) (da_cons ha (da_cons hb da_nil he2) he) (by decide) (by decide) he hpl
theorem de_sorted (hu : X.A.units + 67 < cLine) (hz : X.mg "sorted" = none) (ha : DE X B e m1 f) (hm : m1.flat1 = true := by rfl) (hg : Gl X "sorted" := by rfl) (he : starEach [e] X.env = (false, eval e X.env) :: starEach [] X.env := by rfl) (hpl : (backTo pos (starEach [] X.env)).any (·.1) = false := by rfl) :
    DE X B (.Call (.Name "sorted" p) [e] [] pos) (.own 1) (fArgs gSort (fCons f fNil)) := de_B (cr_sortD hu) (opN_sort hm) hg hz (by decide +kernel) (da_cons ha da_nil he) (by decide) (by decide) he hpl
theorem de_sum (hc : X.calm = true) (hz : X.mg "sum" = none) (ha : DE X B e m1 f) (hm : m1.look = true := by rfl) (hg : Gl X "sum" := by rfl) (he : starEach [e] X.env = (false, eval e X.env) :: starEach [] X.env := by rfl) (hpl : (backTo pos (starEach [] X.env)).any (·.1) = false := by rfl) :
    DE X B (.Call (.Name "sum" p) [e] [] pos) m (fArgs gSum (fCons f fNil)) := de_B (cr_sum hc) (opN_sum hm) hg hz (by decide +kernel) (da_cons ha da_nil he) (by decide) (by decide) he hpl
theorem de_listL (hz : X.mg "list" = none) (ha : DE X B e m1 f) (hm : m1.flat1 = true := by rfl) (hg : Gl X "list" := by rfl) (he : starEach [e] X.env = (false, eval e X.env) :: starEach [] X.env := by rfl) (hpl : (backTo pos (starEach [] X.env)).any (·.1) = false := by rfl) :
    DE X B (.Call (.Name "list" p) [e] [] pos) (.own 1) (fArgs gListL (fCons f fNil)) := de_Ty call_list_of (opN_listL hm) hg hz (by decide +kernel) (da_cons ha da_nil he) (by decide) (by decide) he hpl
theorem de_listT (hz : X.mg "list" = none) (ha : DE X B e (.own 0) f) (hg : Gl X "list" := by rfl) (he : starEach [e] X.env = (false, eval e X.env) :: starEach [] X.env := by rfl) (hpl : (backTo pos (starEach [] X.env)).any (·.1) = false := by rfl) :
    DE X B (.Call (.Name "list" p) [e] [] pos) (.own 1) (fArgs gListT (fCons f fNil)) := de_Ty call_list_of opN_listT hg hz (by decide +kernel) (da_cons ha da_nil he) (by decide) (by decide) he hpl
theorem de_listK (hc : X.calm = true) (hz : X.mg "list" = none) (ha : DE X B e m1 f) (hm : m1.look = true := by rfl) (hg : Gl X "list" := by rfl) (he : starEach [e] X.env = (false, eval e X.env) :: starEach [] X.env := by rfl) (hpl : (backTo pos (starEach [] X.env)).any (·.1) = false := by rfl) :
    DE X B (.Call (.Name "list" p) [e] [] pos) (.own 1) (fArgs gListK (fCons f fNil)) := de_Ty ((call_listD hc).or (call_list_dT hc)) (opN_listK hm) hg hz (by decide +kernel) (da_cons ha da_nil he) (by decide) (by decide) he hpl
end
/-! x in a list or tuple of atoms -/
def flD : D → Bool
  | .non => true
  | .bl _ => true
  | .int _ => true
  | .str _ => true
  | _ => false
def eqF : D → D → Bool
  | .non, .non => true
  | .bl a, .bl b => a == b
  | .int a, .int b => a == b
  | .str a, .str b => a == b
  | .bl a, .int b => (if a then 1 else 0) == b
  | .int a, .bl b => a == (if b then 1 else 0)
  | _, _ => false
end GK

namespace GK
open PySem PySem.Spec PyProof.Rows L2

/-! ### x in a list or tuple of atoms -/
def flV : D → V
  | .bl b => .bl b
  | .int i => .int i
  | .str s => .str s
  | _ => .non
def itemsOf : D → Option (List D)
  | .lst ds => some ds
  | .tup ds => some ds
  | _ => none
def gIn (n : Bool) (x y : D) (R : D → Prop) : Prop := ∃ ds, itemsOf y = some ds ∧ flD x = true ∧ ds.all flD = true ∧ R (.bl (n ^^ ds.any fun z => eqF z x))
section
variable {K : PySem.W.Frag} {m m1 m2 : Mode}
theorem Val.fl {B fp : List Addr} {F H : Hp} {v : V} {d : D} (e : flD d = true) (h : Val K m B F H v d fp) : v = flV d := by
  cases d <;> try (cases e; done)
  · exact h.non.1
  · exact h.bl.1
  · exact h.int.1
  · exact h.str.1
theorem Items.fl {B : List Addr} {F H : Hp} {vs : List V} {ds : List D} (e : ds.all flD = true) (it : Items K m B F H vs ds) : vs = ds.map flV := by
  refine List.ext_getElem? fun i => ?_
  cases q : ds[i]? with
  | none =>
    have hl := List.getElem?_eq_none_iff.mp q
    rw [List.getElem?_eq_none (by rw [it.1]; exact hl), List.getElem?_eq_none (by rw [List.length_map]; exact hl)]
  | some d =>
    obtain ⟨x, h1, h2⟩ := it.2 i _ q
    rw [h1, List.getElem?_map, q, h2.fl (List.all_eq_true.mp e d (List.mem_of_getElem? q))]; rfl
theorem flV_flat (d : D) : flatV (flV d) = true := by cases d <;> rfl
theorem eqF_V {z x : D} (hz : flD z = true) (hx : flD x = true) : eqV (flV z) (flV x) = eqF z x := by
  cases z <;> try (cases hz; done)
  all_goals (cases x <;> try (cases hx; done))
  all_goals rfl
theorem inV_D {x : D} (hx : flD x = true) : ∀ {ds : List D}, ds.all flD = true → inV (flV x) (ds.map flV) = ds.any fun z => eqF z x
  | [], _ => rfl
  | z :: ds, h => by
    rw [List.all_cons, Bool.and_eq_true] at h
    have ih := inV_D hx h.2
    unfold inV at ih ⊢
    rw [List.map_cons, List.any_cons, List.any_cons, ih, eqF_V h.1 hx]
theorem op2_in {n : Bool} (hm : m2.look = true) : Op2 K (rIn K n) m1 m2 m (gIn n) := by
  intro B F H x y d e fp R Q w ⟨f1, f2, ef, hx, hy⟩ _ ⟨ds, e1, e2, e3, hR⟩ k
  have ev := hx.fl e2
  subst ev
  have fin : ∀ {p : Addr} {vs : List V}, (SqL K H p vs ∨ SqT K H p vs) → vs = ds.map flV → rIn K n (flV d) (.ref p) H Q := fun {p vs} hs ev => by
    subst ev
    refine ⟨p, _, rfl, hs, flV_flat d, ?_, ?_⟩
    · rw [List.all_map]
      exact List.all_eq_true.mpr fun z _ => flV_flat z
    · rw [inV_D e2 e3]
      cases n with
      | true =>
        rw [if_pos rfl]
        exact k.bl w (by simpa using hR)
      | false =>
        rw [if_neg Bool.false_ne_true]
        exact k.bl w (by simpa using hR)
  cases e <;> try (cases e1; done)
  · cases e1
    obtain ⟨_, a, vs, rfl, hs, it⟩ := hy.tup hm w
    exact fin (.inr hs) (it.fl e3)
  · cases e1
    obtain ⟨_, a, vs, rfl, hs, it⟩ := hy.lst hm w
    exact fin (.inl hs) (it.fl e3)
/-- .. items at any depth -/
def gInD (n : Bool) (x y : D) (R : D → Prop) : Prop := ∃ ds, y = .lst ds ∧ okD 63 x = true ∧ okD 64 y = true ∧ R (.bl (n ^^ ds.any fun z => PyData.eqv (toP z) (toP x)))
theorem toPs_map : ∀ ds : List D, toPs ds = ds.map toP
  | [] => by simp [toPs]
  | d :: ds => by rw [toPs, List.map_cons, toPs_map ds]
theorem op2_inD : Op2 K (rInD K) m1 m2 m (gInD false) := by
  intro B F H x y d e fp R Q w ⟨f1, f2, ef, hx, hy⟩ hf ⟨ds, e1, e2, e3, hR⟩ k
  subst ef
  subst e1
  have r1 := hx.rd w fun a ha => (hf.1 a (List.mem_append_left _ ha)).2
  have r2 := hy.rd w fun a ha => (hf.1 a (List.mem_append_right _ ha)).2
  refine ⟨toP d, toPs ds, GK.R.dp e2 r1, by have := GK.R.dp e3 r2; rw [toP] at this; exact this, okD_shaped e2 (by decide), by have := okD_shaped e3 (by decide); rw [toP] at this; exact this, ?_⟩
  rw [toPs_map, List.any_map]
  exact k.bl w (by rw [Bool.false_xor] at hR; exact hR)
theorem op2_notInD : Op2 K (rNotInD K) m1 m2 m (gInD true) := by
  intro B F H x y d e fp R Q w ⟨f1, f2, ef, hx, hy⟩ hf ⟨ds, e1, e2, e3, hR⟩ k
  subst ef
  subst e1
  have r1 := hx.rd w fun a ha => (hf.1 a (List.mem_append_left _ ha)).2
  have r2 := hy.rd w fun a ha => (hf.1 a (List.mem_append_right _ ha)).2
  refine ⟨toP d, toPs ds, GK.R.dp e2 r1, by have := GK.R.dp e3 r2; rw [toP] at this; exact this, okD_shaped e2 (by decide), by have := okD_shaped e3 (by decide); rw [toP] at this; exact this, ?_⟩
  rw [toPs_map, List.any_map]
  exact k.bl w (by rw [Bool.true_xor] at hR; exact hR)
end
section
variable {X : Cx} {a b : Expr} {pos : Pos} {m m1 m2 : Mode} {f f' : FE}
theorem de_in (ha : DE X B a m1 f) (hb : DE X B b m2 f') (hm : m2.look = true := by rfl) (h1 : behindInMarks .In b = false := by rfl) : DE X B (.Compare a [.In] [b] pos) m (fBin (gIn false) f f') := de_cmp op_in_seq (op2_in hm) ha hb h1
theorem de_notin (ha : DE X B a m1 f) (hb : DE X B b m2 f') (hm : m2.look = true := by rfl) (h1 : behindInMarks .NotIn b = false := by rfl) : DE X B (.Compare a [.NotIn] [b] pos) m (fBin (gIn true) f f') := de_cmp op_notIn_seq (op2_in hm) ha hb h1
theorem dt_in (ha : DE X B a m1 f) (hb : DE X B b m2 f') (hm : m2.look = true := by rfl) (h1 : behindInMarks .In b = false := by rfl) : DT X B (.Compare a [.In] [b] pos) (fBool (fBin (gIn false) f f')) := dt_cmp .rd op_in_seq (op2_in hm) ha hb h1
theorem dt_notin (ha : DE X B a m1 f) (hb : DE X B b m2 f') (hm : m2.look = true := by rfl) (h1 : behindInMarks .NotIn b = false := by rfl) : DT X B (.Compare a [.NotIn] [b] pos) (fBool (fBin (gIn true) f f')) := dt_cmp .rd op_notIn_seq (op2_in hm) ha hb h1
theorem de_inD (hu : X.A.units + 65 < cLine) (ha : DE X B a m1 f) (hb : DE X B b m2 f') (h1 : behindInMarks .In b = false := by rfl) : DE X B (.Compare a [.In] [b] pos) m (fBin (gInD false) f f') := de_cmp (op_inD hu) op2_inD ha hb h1
theorem de_notinD (hu : X.A.units + 65 < cLine) (ha : DE X B a m1 f) (hb : DE X B b m2 f') (h1 : behindInMarks .NotIn b = false := by rfl) : DE X B (.Compare a [.NotIn] [b] pos) m (fBin (gInD true) f f') := de_cmp (op_notInD hu) op2_notInD ha hb h1
theorem dt_inD (hu : X.A.units + 65 < cLine) (ha : DE X B a m1 f) (hb : DE X B b m2 f') (h1 : behindInMarks .In b = false := by rfl) : DT X B (.Compare a [.In] [b] pos) (fBool (fBin (gInD false) f f')) := dt_cmp .rd (op_inD hu) op2_inD ha hb h1
theorem dt_notinD (hu : X.A.units + 65 < cLine) (ha : DE X B a m1 f) (hb : DE X B b m2 f') (h1 : behindInMarks .NotIn b = false := by rfl) : DT X B (.Compare a [.NotIn] [b] pos) (fBool (fBin (gInD true) f f')) := dt_cmp .rd (op_notInD hu) op2_notInD ha hb h1
end

/-! ### pop -/
section
variable {K : PySem.W.Frag} {B fp : List Addr} {Pn : List V} {Z0 F0 F H : Hp} {σ : L2.St} {ρ : Env} {n i : Nat}
theorem seqIx {i : Int} {n k : Nat} (h : ixN n i = some k) : seqIndex? i n = some k := by
  unfold ixN at h
  unfold seqIndex?
  split at h
  · rename_i h0
    split at h
    · rename_i h1
      cases h
      simp [show ¬ i < 0 by omega, h0, h1]
    · cases h
  · rename_i h0
    split at h
    · rename_i h1
      cases h
      simp [show i < 0 by omega, show 0 ≤ i + (n : Int) by omega, show i + (n : Int) < n by omega]
    · cases h
/-- an item is taken out of the list at a name -/
theorem StOk.popped {ds : List D} (S : StOk K B Pn Z0 F0 F H σ ρ fp) (e : slot ρ i = some (n + 1, .lst ds)) {k : Nat} {d : D} (hk : ds[k]? = some d) :
    ∃ a vs v f fp', σ[i]? = some (some (.ref a)) ∧ H a = some (.lst vs) ∧ vs.length = ds.length ∧ vs[k]? = some v ∧ StOk K B Pn Z0 F0 F (upd H a (.lst (vs.eraseIdx k))) σ (ρ.set i (some (n + 1, .lst (ds.eraseIdx k)))) fp' ∧
      Own K F (upd H a (.lst (vs.eraseIdx k))) n v d f ∧ Apart B Z0 F fp' f := by
  obtain ⟨v0, f0, fp1, e1, e2, S1, ap1, sub⟩ := S.take e
  obtain ⟨a, vs, g, rfl, ha, rfl, t⟩ := e2
  obtain ⟨hag, hg⟩ := List.nodup_cons.mp ap1.2
  obtain ⟨h1, h2, h3, h4⟩ := ap1.1 a List.mem_cons_self
  obtain ⟨g', t', sg, ng, kk⟩ := t.erase k hg
  have hl := t.len
  have hkl : k < ds.length := (List.getElem?_eq_some_iff.mp hk).1
  obtain ⟨v, hv⟩ : ∃ v, vs[k]? = some v := ⟨_, List.getElem?_eq_getElem (by omega)⟩
  obtain ⟨d', gv, q1, q2, q3, q4⟩ := kk v hv
  rw [hk] at q1
  cases q1
  obtain ⟨n1, n2, n3⟩ := List.nodup_append.mp q3
  have S2 := S1.mut (o := .lst (vs.eraseIdx k)) h4 h1 h2 h3 rfl
  have hag' : a ∉ g' := fun z => hag (sg a z)
  have hagv : a ∉ gv := fun z => hag (q4 a z)
  have ow : Own K F (upd H a (.lst (vs.eraseIdx k))) (n + 1) (.ref a) (.lst (ds.eraseIdx k)) (a :: g') := ⟨a, _, g', rfl, upd_same, rfl, t'.upd hag'⟩
  have hi : i < (ρ.set i none).length := by rw [List.length_set]; exact slot_lt e
  obtain ⟨fp2, o3, nd3, sub3⟩ := OwnE.set ow S2.own (List.nodup_append.mpr ⟨S2.nd, List.nodup_cons.mpr ⟨hag', ng⟩, fun b hb c hc e => by
    subst e
    rcases List.mem_cons.mp hc with z | z
    · subst z; exact h4 hb
    · exact (ap1.1 b (List.mem_cons_of_mem _ (sg b z))).2.2.2 hb⟩) hi
  rw [set_self e1, List.set_set] at o3
  have S3 : StOk K B Pn Z0 F0 F (upd H a (.lst (vs.eraseIdx k))) σ (ρ.set i (some (n + 1, .lst (ds.eraseIdx k)))) fp2 := by
    refine ⟨S2.wf, o3, nd3, fun b hb => ?_, S2.z, S2.zB, S2.f, S2.fr, S2.pn⟩
    rcases sub3 b hb with z | z
    · exact S2.out b z
    · rcases List.mem_cons.mp z with z | z
      · subst z; exact ⟨h1, h2, h3⟩
      · obtain ⟨r1, r2, r3, _⟩ := ap1.1 b (List.mem_cons_of_mem _ (sg b z))
        exact ⟨r1, r2, r3⟩
  refine ⟨a, vs, v, gv, fp2, e1, ha, hl, hv, S3, q2.upd hagv, ⟨fun b hb => ?_, n2⟩⟩
  obtain ⟨r1, r2, r3, r4⟩ := ap1.1 b (List.mem_cons_of_mem _ (q4 b hb))
  refine ⟨r1, r2, r3, fun z => ?_⟩
  rcases sub3 b z with y | y
  · exact r4 y
  · rcases List.mem_cons.mp y with y | y
    · subst y; exact hagv hb
    · exact n3 b y b hb rfl
end
section
variable {X : Cx} {e : Expr} {pin n i : Nat} {fe : FE} {f : FM} {x : Str} {pos p apos cpos : Pos}
/-- x.pop(j) -/
theorem dm_popAt (i n : Nat) (he : DE X B e (.own 0) fe) (hN : NameOk X i x := by exact ⟨rfl, by first | exact Or.inl rfl | exact Or.inr (Or.inl rfl) | exact Or.inr (Or.inr rfl), by decide, by decide⟩) (hb : BmOk X (.Name x p) "pop" apos e [] cpos := by exact ⟨rfl, rfl, rfl, rfl, rfl⟩) :
    DM X B (.Call (.Attribute (.Name x p) "pop" apos) [e] [] cpos) pin (.own n) (fun ρ R => ownLst ρ i n (fun _ => True) ∧ fe ρ fun j => ∃ j', j = .int j' ∧ -(2 ^ 63) ≤ j' ∧ j' < 2 ^ 63 ∧ ownLst ρ i n fun ds => ∃ k d, ixN ds.length j' = some k ∧ ds[k]? = some d ∧ R d (ρ.set i (some (n + 1, .lst (ds.eraseIdx k))))) :=
  PE.imp (pe_bm PySem.F.plainAttrs_list PySem.F.slot_list_pop PySem.F.type_list_pop mt_popAt (pe_var hN.1 hN.2 hN.3 hN.4) (pa_cons he pa_nil hb.4) hb.1 hb.2 hb.3 hb.4 hb.5) fun σ H Q ⟨Pn, Z0, F0, F, ρ, fp, R, hpl, S, ⟨h0, hf⟩, k⟩ => by
    obtain ⟨ds0, e0, _⟩ := h0.inv
    obtain ⟨a, vs, g, h1, h2, h3, h4, h5, h6, kk⟩ := S.lst e0
    refine ⟨_, h1, .inl ⟨rfl, _, SqL.of h2⟩, F, ρ, fp, _, S.base, hf, fun F' H' w j fj s hw oj nj ⟨j', ej, l1, l2, hR⟩ => ?_⟩
    subst ej
    obtain ⟨rfl, _⟩ := hw.int
    obtain ⟨ds, e1, kx, d, hk, hd, hR⟩ := hR.inv
    have S' := S.step s fun a h => (by cases h)
    obtain ⟨a', vs', v, f, fp', q1, q2, q3, q4, q5, q6, q7⟩ := S'.popped e1 hd
    rw [h1] at q1
    cases q1
    exact ⟨a, vs', j', kx, v, rfl, rfl, q2, l1, l2, by rw [q3]; exact seqIx hk, q4, k F' _ _ fp' v d f q5 q6 q7 hR⟩
/-- [e] -/
theorem dm_lst1 (n : Nat) (he : DM X B e pin (.own n) f) (hs : starEach [e] X.env = (false, eval e X.env) :: starEach [] X.env := by rfl) : DM X B (.List [e] pos) pin (.own (n + 1)) (fun ρ R => f ρ fun d ρ' => R (.lst [d]) ρ') :=
  PE.imp (pe_lst (pa_cons he pa_nil hs)) fun σ H Q ⟨Pn, Z0, F0, F, ρ, fp, R, hpl, S, hf, k⟩ => by
    refine ⟨Pn, Z0, F0, F, ρ, fp, _, hpl, S, hf, fun F' H' ρ' fp' v d f' S' hv ap hR => ?_⟩
    refine ⟨by show 1 ≤ sizeLine; decide, fun z hz => ?_⟩
    have hv : Own X.K F' H' n v d f' := hv
    have S2 := S'.step (Step.laid (A := []) S'.wf hz (o := .lst [v]) rfl) fun a h => (by cases h)
    have hzf : z ∉ f' := fun h => by obtain ⟨o, e, _⟩ := hv.there z h; rw [hz] at e; cases e
    refine k F' _ ρ' fp' (.ref z) (.lst [d]) (z :: f') S2 ⟨z, [v], f', rfl, upd_same, rfl, OwnL.one (hv.upd hzf)⟩ ⟨fun a ha => ?_, List.nodup_cons.mpr ⟨hzf, ap.2⟩⟩ hR
    rcases List.mem_cons.mp ha with y | y
    · subst y
      refine ⟨F_none S'.wf hz, S'.wf.notB hz, ?_, fun hm => ?_⟩
      · cases q : Z0 a with
        | none => rfl
        | some o => rw [S'.z a o q] at hz; cases hz
      · obtain ⟨o, e, _⟩ := S'.own.there a hm
        rw [hz] at e; cases e
    · exact ap.1 a y
/-- targets = e, what e gives may be read -/
theorem ds_asg {tg : Expr} {mr : Mode} {t : D → Env → Option Env} (he : DM X B e pin (.own 0) f) (hg : DG X pin tg t) (hs : swapsWithSole [tg] e pos.line X.env = pure false := by rfl) (hw : swappedStores [tg] e X.env = pure none := by rfl)
    (h1 : (assignEach [tg] X.env).map (·.2) = [assign tg X.env] := by rfl) : DS X B (.Assign [tg] e pos) pin mr (fun E ρ => f ρ fun d ρ' => ∃ ρ2, t d ρ' = some ρ2 ∧ E.nx ρ2) := by
  obtain ⟨g, pg, kg⟩ := hg.ok
  exact PS.imp (ps_asg he pg hs hw h1) fun Dn σ H ⟨Pn, Z0, F0, F, ρ, fp, E, hpl, S, hf, L⟩ => ⟨Pn, Z0, F0, F, ρ, fp, _, hpl, S, hf, fun F' H' ρ' fp' v d f' S' hv ap ⟨ρ2, e2, hR⟩ => by
    obtain ⟨hv, _⟩ := (show Own X.K F' H' 0 v d f' from hv)
    exact kg B Pn Z0 F0 F' H' σ ρ' ρ2 fp' v d hpl S' hv e2 _ fun σ' fp2 S2 => L.nx F' H' σ' ρ2 fp2 S2 hR⟩
end
end GK

namespace GK
open PySem PySem.Spec PyProof.Rows L2

/-! ### defs with defaults, calls with keywords -/
section
variable {P : Program} {w : World} {K : PySem.W.Frag} {mg : Str → Option Value} {base : Heap}
/-- .. with defaults -/
theorem FunD_okD {x qual : Str} {st : Stmt} {dvs : List V} {kws : List (Str × V)} {f : Addr} {fd : FuncData} {N ps : List Str} {k : Nat} {m : Mode} {W : BSpec} (F : FunD K x qual (defArgs st) (defBody st) (defScope st) dvs kws f fd) (S : FnScope N ps (defScope st)) (len : ∀ B ds R, W B ds R → ds.length = ps.length)
    (hbody : ∀ (B : List Addr) (cdv : Value) (A : Around) (outer : List PySem.Env) (s : Shared) (H : Hp) (E : XK), Room k (A.deeper (envOfC qual (defScope st) s.heap.objs.size f cdv)) →
      ∃ g, DSs (cxOf CX0 P w K mg base N qual (defScope st) f cdv A outer s H E).nox B (defBody st) 0 m g ∧ ∀ ds R, W B ds R → g (DEnds.fn R) (startE N ds)) : FnOk P w K mg base CX0 (k + 1) f fd ps (spD K m W) := by
  refine F.ok S (fun vs H Q E ⟨B, F, ds, R, w, r, hW, k⟩ => by rw [r.length]; exact len B ds R hW) fun cdv A outer s H vs Q E hr ⟨B, F, ds, R, w, r, hW, k⟩ => ?_
  obtain ⟨g, hg, hq⟩ := hbody B cdv A outer s H E hr
  refine ⟨_, hg.nox, [], prot B [] H, F, F, startE N ds, [], DEnds.fn R, rfl, ⟨w, ?_, List.nodup_nil, fun a h => (by cases h), prot_same, fun a h => prot_in (.inr h), fun _ _ h => h, fun a u h => .inl h, fun i v e => (by simp at e)⟩, hq ds R hW, ?_⟩
  · rw [start_eq]
    unfold startE
    rw [r.length]
    exact ownE_start _ r
  have back : ∀ {F' H' : Hp} {σ' : L2.St} {ρ' : Env} {fp' : List Addr}, StOk K B [] (prot B [] H) F F' H' σ' ρ' fp' → Step B [] F H F' H' := fun {F' H' σ' ρ' fp'} T =>
    ⟨fun a o hb e => T.z a o (by rw [prot_out (by simp) hb]; exact e), T.f, fun a u e => by
      rcases T.fr a u e with z | z | z
      · exact .inl z
      · right; left
        by_cases hb : a ∈ B
        · have := T.wf.outB hb
          rw [this] at e; cases e
        · rw [prot_out (by simp) hb] at z; exact z
      · exact .inr (.inr (.inl z)), T.wf⟩
  exact ⟨fun F' H' σ' ρ' fp' T h => k F' H' .non .non [] (back T) (Val.atom rfl fun _ => .non) (fun a h => (by cases h)) List.nodup_nil h,
    fun F' H' σ' ρ' fp' v d f T hv ap h => k F' H' v d f (back T) hv (fun a ha => by
      obtain ⟨h1, h2, h3, h4⟩ := ap.1 a ha
      refine ⟨.inr ?_, h1, h2⟩
      rw [prot_out (by simp) h2] at h3; exact h3) ap.2 h,
    fun _ _ _ _ _ _ h => h.elim, fun _ _ _ _ _ _ h => h.elim⟩
theorem FunD_okM {x qual : Str} {st : Stmt} {dvs : List V} {kws : List (Str × V)} {fa : Addr} {fd : FuncData} {N ps : List Str} {k n : Nat} {m : Mode} {W : FSpecM} (F : FunD K x qual (defArgs st) (defBody st) (defScope st) dvs kws fa fd) (S : FnScope N ps (defScope st)) (len : ∀ s ds R, W s ds R → ds.length + 1 = ps.length)
    (hbody : ∀ (B : List Addr) (cdv : Value) (A : Around) (outer : List PySem.Env) (s : Shared) (H : Hp) (E : XK), Room k (A.deeper (envOfC qual (defScope st) s.heap.objs.size fa cdv)) →
      ∃ g, DSs (cxOf CX0 P w K mg base N qual (defScope st) fa cdv A outer s H E).nox B (defBody st) 1 m g ∧ ∀ s ds R, W s ds R → g (DEnds.meth n R) (some (n, s) :: (envOf ds ++ List.replicate (N.length - (ds.length + 1)) none))) : FnOk P w K mg base CX0 (k + 1) fa fd ps (spM K n m W) := by
  refine F.ok S (fun vs H Q E ⟨B, F, v, ws, s, ds, f, R, e, w, o, a, r, hW, k⟩ => by rw [e, List.length_cons, r.length]; exact len s ds R hW) fun cdv A outer sh H vs Q E hr ⟨B, F, v, ws, s, ds, f, R, ev, w, ho, ⟨ha, hn⟩, r, hW, k⟩ => ?_
  obtain ⟨g, hg, hq⟩ := hbody B cdv A outer sh H E hr
  subst ev
  refine ⟨_, hg.nox, [v], prot B f H, F, F, _, f, DEnds.meth n R, rfl, ⟨w, ?_, hn, fun a h => ⟨(ha a h).1, (ha a h).2, prot_in (.inl h)⟩, prot_same, fun a h => prot_in (.inr h), fun _ _ h => h, fun a u h => .inl h, fun i u e => ?_⟩, hq s ds R hW, ?_⟩
  · rw [start_eq, List.length_cons, r.length]
    exact ⟨f, [], (List.append_nil f).symm, ho, ownE_start _ r⟩
  · cases i with
    | zero =>
      have e' : v = u := Option.some.inj e
      subst e'; rfl
    | succ i => simp at e
  have fin : ∀ {F' H' : Hp} {σ' : L2.St} {ρ' : Env} {fp' : List Addr} {s' : D} {r : V} {d : D} {fr : List Addr}, StOk K B [v] (prot B f H) F F' H' σ' ρ' fp' → slot ρ' 0 = some (n, s') → Val K m B F' H' r d fr → Apart B (prot B f H) F' fp' fr → R d s' → Q r H' := fun {F' H' σ' ρ' fp' s' r d fr} T e hv ap hR => by
    obtain ⟨v', f', fp2, e1, e2, T2, ap2, sub⟩ := T.take e
    have e3 := T.pn 0 v rfl
    rw [e3] at e1
    cases e1
    refine k F' H' r d fr s' f' T.stepM e2 hv (fun a ha => ?_) ?_ hR
    · have key : F' a = none ∧ a ∉ B ∧ prot B f H a = none := by
        rcases List.mem_append.mp ha with z | z
        · obtain ⟨h1, h2, h3, _⟩ := ap2.1 a z; exact ⟨h1, h2, h3⟩
        · obtain ⟨h1, h2, h3, _⟩ := ap.1 a z; exact ⟨h1, h2, h3⟩
      refine ⟨?_, key.1, key.2.1⟩
      by_cases hf : a ∈ f
      · exact .inl hf
      · right
        have := key.2.2
        rw [prot_out hf key.2.1] at this; exact this
    · refine List.nodup_append.mpr ⟨ap2.2, ap.2, fun a ha b hb e => ?_⟩
      subst e
      exact (ap.1 a hb).2.2.2 (sub a (List.mem_append_right _ ha))
  exact ⟨fun F' H' σ' ρ' fp' T ⟨s', e, h⟩ => fin T e (Val.atom (d := .non) (v := .non) rfl fun _ => .non) .nil h, fun F' H' σ' ρ' fp' v d f T hv ap ⟨s', e, h⟩ => fin T e hv ap h,
    fun _ _ _ _ _ _ h => h.elim, fun _ _ _ _ _ _ h => h.elim⟩
end
section
variable {K : PySem.W.Frag} {x qual : Str} {params : Arguments} {body : List Stmt} {scope : Scope} {kws : List (Str × V)} {f : Addr} {fd : FuncData} {ps : List Str}
/-- keyword-only defaults alone: some are written, ms are those that lack -/
theorem kbinds0 (F : FunD K x qual params body scope [] kws f fd) (n : Nat) (ks : List Str) (ms : List (Str × V)) (g : {α : Type} → List α → List α → List α → List α) (hk : kws ≠ []) (hms : ∀ q ∈ ms, q ∈ kws)
    (hrel : ∀ {vs mz zs : List V} {us mv ws : List Value}, Vals vs us → Vals mz mv → Vals zs ws → Vals (g vs mz zs) (g us mv ws))
    (h : ∀ (Da : Addr) (doc pm : Value) (an : Option Addr) (cdv ct : Value) (us mv ws : List Value), us.length = n → mv.length = ms.length → ws.length = ks.length →
      KwChain Da ((ms.map (·.1)).zip mv) (bindArgs (PySem.W.fnOf x qual params body scope .none (.ref Da) doc pm an cdv ct) ⟨us, ks.zip ws⟩) (ps.zip (g us mv ws))) :
    ∃ mv : List Value, KBn K fd ps n ks (fun us ws => g us mv ws) (fun vs zs => g vs (ms.map (·.2)) zs) := by
  obtain ⟨oc, od, dV, kV, doc, pm, an, cdv, ct, osl, rfl, lk, hcd, hD, hK⟩ := F.ex
  rcases hD with ⟨_, rfl⟩ | ⟨e, _⟩
  · rcases hK with e | ⟨Da, rfl, hq⟩
    · exact absurd e hk
    · obtain ⟨mv, hl, rk, hks⟩ := kwd_vals (ms := ms) fun q hm => hq q (hms q hm)
      exact ⟨mv, ⟨fun s us ws X l1 l2 => BindsTo.of_looks fun M => KwChain.looks X hks (h Da doc pm an cdv ct us mv ws l1 hl l2), fun r1 r2 => hrel r1 rk r2⟩⟩
  · exact absurd rfl e
end
theorem PK.imp {X : Cx} {e : List Keyword} {t t' : TA} (h : PK X e t) (k : ∀ σ H Q, t' σ H Q → t σ H Q) : PK X e t' := ⟨fun p pins s σ H Q I q => h.run p pins s σ H Q I (k σ H Q q)⟩
abbrev DKw (X : Cx) (B : List Addr) (kws : List Keyword) (ms : List Mode) (f : FA) : Prop := PK X kws (tDA X.K B ms f)
section
variable {X : Cx} {e : Expr} {es : List Expr} {kws : List Keyword} {m : Mode} {ms ms' : List Mode} {f : FE} {fs fk : FA} {pos p kpos : Pos} {nm : Option Str}
theorem dk_nil : DKw X B [] [] fNil := PK.imp pk_nil fun σ H Q ⟨F, ρ, fp, R, S, hf, k⟩ => k F H [] [] [] (Step.refl S.wf) rfl (fun a h => (by cases h)) List.nodup_nil hf
theorem tDA_cons {K : PySem.W.Frag} {σ : L2.St} {H : Hp} {Q : List V → Hp → Prop} (h : tDA K B (m :: ms) (fCons f fs) σ H Q) : tCons (tD K B m f) (tDA K B ms fs) σ H Q := by
  obtain ⟨F, ρ, fp, R, S, hf, k⟩ := h
  refine ⟨F, ρ, fp, _, S, hf, fun F1 H1 v1 d1 fp1 s1 hv1 o1 n1 hg1 => ?_⟩
  refine ⟨F1, ρ, fp, _, S.step s1 (fun a ha => by cases ha), hg1, fun F2 H2 v2 d2 fp2 s2 hv2 o2 n2 hg2 => ?_⟩
  have t1 := hv1.there
  have nn : ∀ a ∈ fp1, F2 a = none := fun a ha => by
    obtain ⟨o, e, mu⟩ := t1 a ha
    exact s2.out e mu (o1 a ha).2.2 (o1 a ha).2.1 fun z => by cases z
  refine k F2 H2 (v1 :: v2) (d1 :: d2) (fp1 ++ fp2) (s1.trans s2 fun a ha => by cases ha) ⟨fp1, fp2, rfl, hv1.step s2 fun a ha => (o1 a ha).2.2, hv2⟩ (fun a ha => ?_) ?_ hg2
  · rcases List.mem_append.mp ha with z | z
    · exact ⟨(o1 a z).1, nn a z, (o1 a z).2.2⟩
    · exact ⟨.inr (s1.new (o2 a z).2.2 ((o2 a z).1.elim (fun z => by cases z) id)), (o2 a z).2⟩
  · refine List.nodup_append.mpr ⟨n1, n2, fun a ha b hb e => ?_⟩
    subst e
    obtain ⟨o, e, mu⟩ := t1 a ha
    rcases (o2 a hb).1 with z | z
    · cases z
    · rw [e] at z; cases z
theorem dk_cons (h : DE X B e m f) (hr : DKw X B kws ms fk) : DKw X B (⟨nm, e, kpos⟩ :: kws) (m :: ms) (fCons f fk) := PK.imp (pk_cons h hr) fun _ _ _ q => tDA_cons q
/-- f(e, .., k = v, ..) -/
theorem de_callN {k n : Nat} {fa : Addr} {fd : FuncData} {ps ks : List Str} {W : BSpec} {x : Str} {g : List Value → List Value → List Value} {gV : List V → List V → List V} (gD : List D → List D → List D)
    (F : FnOk X.prog X.w X.K X.mg X.base CX0 k fa fd ps (spD X.K m W)) (hr : Room k X.A) (hg : Gl X x) (hm : X.mg x = some (.ref fa)) (hk : PySem.W.keepIn X.K (.ref fa) = true) (hb : KBn X.K fd ps n ks g gV)
    (hgd : ∀ F vs xs zs ys, RL X.K F vs xs → RL X.K F zs ys → RL X.K F (gV vs zs) (gD xs ys)) (ha : DA X B (e :: es) ms fs) (hkw : DKw X B kws ms' fk) (hms : ∀ m ∈ ms, m = .own 0 := by simp) (hms' : ∀ m ∈ ms', m = .own 0 := by simp) (hn : (e :: es).length = n := by rfl) (hn' : kws.length = ks.length := by rfl)
    (hl : ms.length = (e :: es).length := by rfl) (hl' : ms'.length = kws.length := by rfl)
    (hall : (backToKw pos (keywordEach kws X.env)).all (·.1.isSome) = true := by rfl) (hks : (backToKw pos (keywordEach kws X.env)).filterMap (·.1) = ks := by rfl)
    (hdb : (x == ("__debug__" : Str)) = false := by decide) (he : starEach (e :: es) X.env = (false, eval e X.env) :: starEach es X.env := by rfl)
    (hpl : ((backTo pos (starEach (e :: es) X.env)).any (·.1) || (backToKw pos (keywordEach kws X.env)).any (·.1.isNone)) = false := by rfl) :
    DE X B (.Call (.Name x p) (e :: es) kws pos) m (fun ρ R => fs ρ fun xs => fk ρ fun ys => W B (gD xs ys) R) :=
  PE.imp (pe_callN F hr hg hm hk hb pass0 ha hkw hall hks hdb he hpl) fun σ H Q ⟨F, ρ, fp, R, S, hf, k⟩ => by
    have len : ∀ {ms : List Mode} {vs : List V} {ds : List D} {fp : List Addr} {F H : Hp}, ValL X.K B F H ms vs ds fp → vs.length = ms.length := fun {ms vs ds fp F H} h => by
      induction ms generalizing vs ds fp with
      | nil =>
        cases vs with
        | nil => rfl
        | cons v vs => cases h
      | cons m ms ih =>
        cases vs with
        | nil => cases h
        | cons v vs =>
          cases ds with
          | nil => cases h
          | cons d ds =>
            obtain ⟨f1, f2, e, h, t⟩ := h
            rw [List.length_cons, List.length_cons, ih t]
    refine ⟨F, ρ, fp, _, S, hf, fun F1 H1 vs xs fp1 s1 hv o1 n1 hg1 => ⟨F1, ρ, fp, _, S.step s1 (fun a h => by cases h), hg1, fun F2 H2 zs ys fp2 s2 hw o2 n2 hW => ⟨?_, ?_, ?_⟩⟩⟩
    · rw [len hv, hl, hn]
    · rw [len hw, hl', hn']
    · exact call_all s2.wf (hgd F2 _ _ _ _ ((hv.rl0 hms).mono s2.fs) (hw.rl0 hms')) hW ((k.after s1 (A1 := fp1) fun a ha => (o1 a ha).1).after (s2.weak fun a h => (by cases h)) (A1 := []) fun a h => (by cases h))
end
/-! ### tuples of targets in a comprehension -/
section
variable {X : Cx} {x : Str} {pos : Pos}
structure DGsc (X : Cx) (tgs : List Expr) (vs is : List Nat) : Prop where
  ok : ∃ g : TGs, (∀ (s : Shared) (H : Hp) (scope : Scope) (C : Addr) (cl : List (Str × Addr)) (fp : List Addr), (∀ v ∈ vs, ∃ x, X.N[v]? = some x ∧ ∀ C cl, (compEnvC scope cl C X.env).scope.names.lookup x = some .local) → PGs (X.blk s H scope (compEnvC scope cl C X.env) fp) tgs g) ∧
    ∀ (B : List Addr) (F H : Hp) (σ0 σ : L2.St) (ρ ρ' : Env) (fp : List Addr) (ws : List V) (ds : List D), L2.wipe σ vs = L2.wipe σ0 vs → StOk X.K B [] noH noH F H σ ρ fp → RL X.K F ws ds → tgL is ds ρ = some ρ' →
      ∀ Q : L2.St → Hp → Prop, (∀ σ' fp', StOk X.K B [] noH noH F H σ' ρ' fp' → L2.wipe σ' vs = L2.wipe σ0 vs → Q σ' H) → g ws σ H Q
theorem dgsc_nil {vs : List Nat} : DGsc X [] vs [] := ⟨gNil, fun _ _ _ _ _ _ _ => pgs_nil, fun B F H σ0 σ ρ ρ' fp ws ds hw S r e Q k => by
  cases r with
  | nil => cases e; exact ⟨rfl, k σ fp S hw⟩
  | cons h t => cases e⟩
theorem wipe_set {σ : L2.St} {i : Nat} {o : Option V} : ∀ {vs : List Nat}, i ∈ vs → L2.wipe (σ.set i o) vs = L2.wipe σ vs
  | v :: vs, h => by
    show (L2.wipe (σ.set i o) vs).set v none = (L2.wipe σ vs).set v none
    by_cases e : i ∈ vs
    · rw [wipe_set e]
    · have hv : i = v := by rcases List.mem_cons.mp h with z | z; exact z; exact absurd z e
      subst hv
      have comm : ∀ (us : List Nat) (σ : L2.St), i ∉ us → L2.wipe (σ.set i o) us = (L2.wipe σ us).set i o := by
        intro us
        induction us with
        | nil => intro σ _; rfl
        | cons u us ih =>
          intro σ hu
          show (L2.wipe (σ.set i o) us).set u none = ((L2.wipe σ us).set u none).set i o
          rw [ih σ fun z => hu (List.mem_cons_of_mem _ z)]
          exact List.set_comm _ _ fun z => hu (by rw [z]; exact List.mem_cons_self)
      rw [comm vs σ e, List.set_set]
theorem dgsc_cons {vs is : List Nat} {es : List Expr} (i : Nat) (hN : X.N.Nodup) (hi : X.N[i]? = some x) (hv : i ∈ vs) (h : DGsc X es vs is)
    (hs : ∀ (env : PySem.Env), (assignEach (.Name x pos :: es) env).map (·.2) = assign (.Name x pos) env :: (assignEach es env).map (·.2) := by intro _; rfl) : DGsc X (.Name x pos :: es) vs (i :: is) := by
  obtain ⟨g, pg, kg⟩ := h.ok
  refine ⟨gCons (gName i) g, fun s H scope C cl fp hl => ?_, fun B F H σ0 σ ρ ρ' fp ws ds hw S r e Q k => ?_⟩
  · obtain ⟨y, e, hy⟩ := hl i hv
    rw [hi] at e; cases e
    exact pgs_cons (pg_name hN hi (.inl (hy C cl)) (.inr (hy C cl))) (pg s H scope C cl fp hl) (hs _)
  · cases r with
    | nil => cases e
    | cons h t =>
      unfold tgL at e
      split at e
      · rename_i hi'
        obtain ⟨fp', S'⟩ := S.set (n := 0) (f := []) (i := i) ⟨h, rfl⟩ .nil hi' (Nat.zero_le _)
        exact ⟨_, _, rfl, kg B F H σ0 _ _ ρ' fp' _ _ (by rw [wipe_set hv]; exact hw) S' t e Q k⟩
      · cases e
theorem wipe_sub {σ : L2.St} {vs : List Nat} : ∀ {ws : List Nat}, (∀ w ∈ ws, w ∈ vs) → L2.wipe (L2.wipe σ ws) vs = L2.wipe σ vs
  | [], _ => rfl
  | w :: ws, h => by
    show L2.wipe ((L2.wipe σ ws).set w none) vs = _
    rw [wipe_set (h w List.mem_cons_self), wipe_sub fun x hx => h x (List.mem_cons_of_mem _ hx)]
theorem dgc_tup {vs is : List Nat} {es : List Expr} {k : Nat} (hc : X.calm = true) (h : DGsc X es vs is) (hn : ∀ env : PySem.Env, (assignEach es env).length = is.length := by intro _; rfl) (hst : ∀ env : PySem.Env, (assignEach es env).findIdx? (·.1) = none := by intro _; rfl) : DGc X (.Tuple es k pos) vs (tgT is) := by
  obtain ⟨g, pg, kg⟩ := h.ok
  refine ⟨L2.gTup X.K is.length g, fun s H scope C cl fp hl => pg_tup hc (pg s H scope C cl fp hl) (hn _) (hst _), fun B F H σ ρ ρ' fp v d S r e Q k => ?_⟩
  unfold tgT at e
  cases d <;> try (cases e; done)
  obtain ⟨a, ws, rfl, ht, rl⟩ := r.tupI
  refine ⟨a, ws, rfl, tup_sub S.wf ht, by rw [rl.length]; exact tgL_len e, ?_⟩
  exact kg B F H (L2.wipe σ vs) (L2.wipe σ vs) ρ ρ' fp ws _ rfl S rl e Q fun σ' fp' S' hw => k σ' fp' S' (by rw [hw]; exact wipe_sub fun _ h => h)
end
end GK

namespace GK
open PySem PySem.Spec PyProof.Rows L2

/-! ### the law's bag -/
section
variable {K : PySem.W.Frag} {B A : List Addr} {F H : Hp}
theorem bag_upd {b c l : Addr} {ts : List Addr} {cells left left' : List Int} {turn turn' : Int} (w : WF B F H) (eB : B = b :: c :: l :: ts) (ht : ∀ t ∈ ts, ∃ o xs, H t = some (.frz o (.lst xs))) (h1 : H b = some (.lst [.ref c, .ref l, .int turn])) (h2 : H c = some (.lst (cells.map V.int)))
    (h3 : H l = some (.lst (left.map V.int))) (n1 : b ≠ c) (n2 : b ≠ l) (n3 : c ≠ l) (l0 : 0 < cells.length) (l63 : cells.length ≤ 63) {H' : Hp} (hs : ∀ a, a ≠ b → a ≠ l → H' a = H a) (k1 : H' b = some (.lst [.ref c, .ref l, .int turn'])) (t0 : 0 ≤ turn')
    (k3 : H' l = some (.lst (left'.map V.int))) (le : left'.length = cells.length) : Step B A F H F H' := by
  have out : ∀ a, a ∉ B → H' a = H a := fun a ha => hs a (fun z => ha (by rw [eB, z]; simp)) fun z => ha (by rw [eB, z]; simp)
  refine ⟨fun a o ha e => by rw [out a ha]; exact e, fun _ _ h => h, fun _ _ h => .inl h, ⟨fun a u e => ?_, fun a o u ha e => w.lock a o u ha (by rw [← out a ha]; exact e), .inr ⟨b, c, l, ts, cells, left', turn', eB, fun t hm => ?_, k1, by rw [hs c n1.symm n3]; exact h2, k3, n1, n2, n3, t0, l0, l63, le⟩⟩⟩
  · obtain ⟨hb, x, ex, er⟩ := rdH_some (w.sub a u e)
    exact rdH_of hb (by rw [out a hb]; exact ex) er
  · obtain ⟨o, xs, e⟩ := ht t hm
    refine ⟨o, xs, ?_⟩
    rw [hs t (fun z => ?_) fun z => ?_]
    · exact e
    · subst z; rw [h1] at e; cases e
    · subst z; rw [h3] at e; cases e
/-- _law_draw(bag, size): some number from 0 to size - 1 -/
def wDraw : BSpec := fun B ds R => ∃ b size, B.head? = some b ∧ ds = [.raw (.ref b), .int size] ∧ 0 < size ∧ size.natAbs.log2 < 9000 ∧ ∀ r : Int, 0 ≤ r → r < size → R (.int r)
theorem atI_ints {ns : List Int} {i : Int} (h0 : 0 ≤ i) (h1 : i < ns.length) : ∃ n, atI (ns.map V.int) i = some (.int n) := by
  have e : i.toNat < ns.length := by omega
  refine ⟨ns[i.toNat], ?_⟩
  unfold atI ixN
  rw [if_pos h0, if_pos (by rw [List.length_map]; exact h1)]
  show (ns.map V.int)[i.toNat]? = _
  rw [List.getElem?_map, List.getElem?_eq_getElem e]; rfl
theorem atI_at {ns : List Int} {i : Int} {v : V} (h : atI (ns.map V.int) i = some v) (h0 : 0 ≤ i) : ∃ n k, v = .int n ∧ ixN (ns.map V.int).length i = some k ∧ k < ns.length := by
  unfold atI at h
  cases q : ixN (ns.map V.int).length i with
  | none => rw [q] at h; cases h
  | some k =>
    rw [q] at h
    have h : (ns.map V.int)[k]? = some v := h
    rw [List.getElem?_map] at h
    cases e : ns[k]? with
    | none => rw [e] at h; cases h
    | some n =>
      rw [e] at h
      cases h
      exact ⟨n, k, rfl, rfl, (List.getElem?_eq_some_iff.mp e).1⟩
end
end GK

namespace GK
open PySem PySem.Spec PyProof.Rows L2
/-- a comprehension's block, its names given as they stand -/
theorem blk_of (N : List Str) (sc : Scope) {scope : Scope} {own : List (Str × Nat)} (h0 : scope.kind = .function) (h1 : ∀ y ∈ scope.names, scope.names.lookup y.1 = some y.2) (h2 : ∀ p ∈ own, N[p.2]? = some p.1)
    (h3 : ∀ y ∈ scope.names, y.2 = .free → sc.names.lookup y.1 = some .cell ∨ sc.names.lookup y.1 = some .free) (h4 : ∀ y ∈ scope.names, y.2 = .local ∨ y.2 = .cell → y.1 ∈ own.map (·.1) ∨ y.1 ∉ N) : BlkOk N sc scope own := ⟨h0, h1, h2, h3, h4⟩
theorem cut_ints (ns : List Int) (lo hi : Option Int) : ∃ ms : List Int, cutV (ns.map V.int) lo hi = ms.map V.int ∧ ms.length ≤ ns.length := by
  refine ⟨(ns.drop (HT.sIx ns.length 0 lo)).take (HT.sIx ns.length ns.length hi - HT.sIx ns.length 0 lo), ?_, ?_⟩
  · unfold cutV
    rw [List.length_map, List.map_take, List.map_drop]
  · rw [List.length_take, List.length_drop]; omega
/-- _law_bag(script): two new lists of as many numbers, one at least, and the turn -/
def spBag (K : PySem.W.Frag) : Sp := fun vs H Q _ => ∃ (a : Addr) (ns : List Int), vs = [.ref a] ∧ SqL K H a (ns.map V.int) ∧ ns.length ≤ 63 ∧
  ∀ (b c l : Addr) (cells left : List Int) (H' : Hp), H b = none → b ≠ c → b ≠ l → c ≠ l → 0 < cells.length → cells.length ≤ 63 → left.length = cells.length → (∀ x o, H x = some o → H' x = some o) → (∀ x o u, H' x = some (.frz o u) → H x = some (.frz o u)) →
    H' b = some (.lst [.ref c, .ref l, .int 0]) → H' c = some (.lst (cells.map V.int)) → H' l = some (.lst (left.map V.int)) → Q (.ref b) H'
/-- what stands, and nothing new is locked -/
def Ext (H H' : Hp) : Prop := (∀ x o, H x = some o → H' x = some o) ∧ ∀ x o u, H' x = some (.frz o u) → H x = some (.frz o u)
theorem Ext.refl {H : Hp} : Ext H H := ⟨fun _ _ h => h, fun _ _ _ h => h⟩
theorem Ext.put {H H' : Hp} (e : Ext H H') {p : Addr} {xs : List V} (hp : H p = none) : Ext H (upd H' p (.lst xs)) :=
  ⟨fun x o h => by rw [upd_ne (ne_of_none h hp)]; exact e.1 x o h, fun x o u h => by
    by_cases c : x = p
    · subst c; rw [upd_same] at h; cases h
    · rw [upd_ne c] at h; exact e.2 x o u h⟩
theorem Ext.none {H H' : Hp} (e : Ext H H') {p : Addr} (h : H' p = none) : H p = none := by
  cases q : H p with
  | none => rfl
  | some o => rw [e.1 p o q] at h; cases h
theorem SqL.ext {K : PySem.W.Frag} {H H' : Hp} (e : ∀ x o, H x = some o → H' x = some o) {a : Addr} {xs : List V} (h : SqL K H a xs) : SqL K H' a xs := by
  rcases h with h | h
  · rcases h with h | ⟨o, h⟩
    · exact .inl (.inl (e _ _ h))
    · exact .inl (.inr ⟨o, e _ _ h⟩)
  · exact .inr h
/-! ### the law itself: behind its first line the bag stands -/
def isLl : Option HO → Bool
  | some (.frz _ (.lst _)) => true
  | _ => false
theorem isLl_inv {o : Option HO} (h : isLl o = true) : ∃ ob xs, o = some (.frz ob (.lst xs)) := by
  unfold isLl at h
  split at h
  · exact ⟨_, _, rfl⟩
  · cases h
def lawEnds : DEnds := { nx := fun _ => False, rt := fun d _ => d = .bl true }
/-- the rest of the law, for each place of the bag -/
theorem law_rest {X : Cx} {rest : List Stmt} {g : List Addr → FS} (h : ∀ B, DSs X B rest 0 (.own 0) (g B)) : PSs X rest (fun D σ H => ∀ N, (∀ p, N ≤ p → H p = Option.none) → ∃ B, tDS X.K B 0 (.own 0) (g B) D σ H) :=
  ⟨fun pins s σ H D I q => by
    obtain ⟨B, q⟩ := q s.heap.objs.size fun p hp => I.hok.fresh hp
    exact (h B).run pins s σ H D I q⟩
theorem law_start {K : PySem.W.Frag} {g : List Addr → FS} {H H' : Hp} {a b c l : Addr} {cells left : List Int} {n N : Nat} {D : Ends} (hO : Only H) (hN : ∀ p, N ≤ p → H' p = Option.none) (nb : H b = Option.none) (n1 : b ≠ c) (n2 : b ≠ l) (n3 : c ≠ l) (l0 : 0 < cells.length) (l63 : cells.length ≤ 63) (le : left.length = cells.length)
    (hlk : ∀ x o u, H' x = some (.frz o u) → H x = some (.frz o u)) (h1 : H' b = some (.lst [.ref c, .ref l, .int 0])) (h2 : H' c = some (.lst (cells.map V.int))) (h3 : H' l = some (.lst (left.map V.int)))
    (hg : ∀ B, B.head? = some b → g B lawEnds (some (0, .raw (.ref a)) :: some (0, .raw (.ref b)) :: List.replicate n Option.none)) (hD : ∀ H2, D.rt (.bl true) H2) :
    ∃ B, tDS K B 0 (.own 0) (g B) D (some (.ref a) :: some (.ref b) :: List.replicate n Option.none) H' := by
  have hts : ∀ t ∈ (List.range N).filter (fun p => isLl (H' p)), ∃ o xs, H' t = some (.frz o (.lst xs)) := fun t ht => isLl_inv (List.mem_filter.mp ht).2
  have hlock : ∀ x o u, x ∉ b :: c :: l :: (List.range N).filter (fun p => isLl (H' p)) → H' x = some (.frz o u) → isDct u := fun x o u hx e => by
    exfalso
    have e0 := hlk x o u e
    rcases hO x with z | ⟨o', xs, z⟩
    · rw [z] at e0; cases e0
    · rw [z] at e0
      cases e0
      have hxN : x < N := by
        apply Nat.lt_of_not_le
        intro hle
        rw [hN x hle] at e; cases e
      exact hx (by
        refine List.mem_cons_of_mem _ (List.mem_cons_of_mem _ (List.mem_cons_of_mem _ (List.mem_filter.mpr ⟨List.mem_range.mpr hxN, ?_⟩)))
        rw [e]; rfl)
  refine ⟨b :: c :: l :: (List.range N).filter (fun p => isLl (H' p)), [], noH, noH, noH, some (0, .raw (.ref a)) :: some (0, .raw (.ref b)) :: List.replicate n Option.none, [], lawEnds, rfl,
    ⟨⟨fun _ _ e => (by cases e), hlock, .inr ⟨b, c, l, _, cells, left, 0, rfl, hts, h1, h2, h3, n1, n2, n3, Int.le_refl 0, l0, l63, le⟩⟩, ⟨[], [], rfl, ⟨.raw _, rfl⟩, [], [], rfl, ⟨.raw _, rfl⟩, ownE_none n⟩, List.nodup_nil, fun a h => (by cases h), fun _ _ e => (by cases e), fun _ _ => rfl, fun _ _ e => (by cases e), fun _ _ e => (by cases e), fun i v e => (by simp at e)⟩, hg _ rfl, ?_⟩
  refine ⟨fun F H σ ρ fp S h => h.elim, fun F H2 σ ρ fp v d f S hv ap h => ?_, fun F H σ ρ fp S h => h.elim, fun F H σ ρ fp S h => h.elim⟩
  have h : d = .bl true := h
  subst h
  obtain ⟨rfl, _⟩ := hv.bl
  exact hD _
/-- the law's promise -/
def spLaw (K : PySem.W.Frag) : Sp := fun vs H Q _ => ∃ (a : Addr) (ns : List Int), vs = [.ref a] ∧ SqL K H a (ns.map V.int) ∧ ns.length ≤ 63 ∧ Only H ∧ ∀ H', Q (.bl true) H'
end GK

namespace GK
open PySem PySem.Spec PyProof.Rows L2

theorem _root_.L2.Room.u {k : Nat} {A : Around} (hr : Room k A) (n : Nat) (h : n ≤ 200 := by decide) : A.units + n < cLine := by have := hr.un; omega
/-- a def that keeps its promise, by its name -/
structure Cal (P : Program) (w : World) (K : PySem.W.Frag) (mg : Str → Option Value) (base : Heap) (x : Str) (k : Nat) (ps : List Str) (m : Mode) (dd : List D) (W : BSpec) : Prop where
  ex : ∃ (f : Addr) (fd : FuncData) (ds : List Value) (dvs : List V), FnOk P w K mg base CX0 k f fd ps (spD K m W) ∧ mg x = some (.ref f) ∧ PySem.W.keepIn K (.ref f) = true ∧ Binds K fd ps ds ∧ Vals dvs ds ∧ Dflt K dvs dd
/-- a method that changes nothing -/
structure CalM (P : Program) (w : World) (K : PySem.W.Frag) (mg : Str → Option Value) (base : Heap) (C : Addr) (mt : Str) (k : Nat) (ps : List Str) (m : Mode) (dd : List D) (W : BSpec) : Prop where
  cl : Cls K C
  ex : ∃ (f : Addr) (fd : FuncData) (ds : List Value) (dvs : List V), FnOk P w K mg base CX0 k f fd ps (spD K m W) ∧ Meth K C mt f ∧ Binds K fd ps ds ∧ Vals dvs ds ∧ Dflt K dvs dd
/-- a class, by its __init__ -/
structure CalK (P : Program) (w : World) (K : PySem.W.Frag) (mg : Str → Option Value) (base : Heap) (x : Str) (C : Addr) (k n : Nat) (ps : List Str) (m : Mode) (dd : List D) (W : FSpecM) : Prop where
  ex : ∃ (f : Addr) (fd : FuncData) (ds : List Value) (dvs : List V), FnOk P w K mg base CX0 k f fd ps (spM K (n + 1) m W) ∧ Mk K C f ∧ mg x = some (.ref C) ∧ Binds K fd ps ds ∧ Vals dvs ds ∧ Dflt K dvs dd
section
variable {X : Cx} {B : List Addr} {k k' n : Nat} {C : Addr} {ps : List Str} {x : Str} {p pos apos : Pos} {e o : Expr} {es : List Expr} {m : Mode} {ms : List Mode} {fs : FA} {fo : FE} {W : BSpec} {dd : List D}
theorem de_C (c : Cal X.prog X.w X.K X.mg X.base x k ps m dd W) (hr : Room k' X.A) (ha : DA X B (e :: es) ms fs) (hk : k ≤ k' := by decide) (hg : Gl X x := by rfl) (hms : ∀ m ∈ ms, m = .own 0 := by simp)
    (hdb : (x == ("__debug__" : Str)) = false := by decide) (he : starEach (e :: es) X.env = (false, eval e X.env) :: starEach es X.env := by rfl) (hpl : (backTo pos (starEach es X.env)).any (·.1) = false := by rfl) :
    DE X B (.Call (.Name x p) (e :: es) [] pos) m (fArgs (fun xs R => W B (xs ++ dd) R) fs) := by
  obtain ⟨f, fd, ds, dvs, F, hm, kp, hb, hd, hdd⟩ := c.ex
  exact de_call F (hr.mono hk) hg hm kp hb hd hdd ha hms hdb he hpl
theorem de_CR (c : Cal X.prog X.w X.K X.mg X.base x k ps (.own n) dd W) (hr : Room k' X.A) (ha : DA X B (e :: es) ms fs) (hk : k ≤ k' := by decide) (hg : Gl X x := by rfl)
    (hdb : (x == ("__debug__" : Str)) = false := by decide) (he : starEach (e :: es) X.env = (false, eval e X.env) :: starEach es X.env := by rfl) (hpl : (backTo pos (starEach es X.env)).any (·.1) = false := by rfl) :
    DE X B (.Call (.Name x p) (e :: es) [] pos) (.own n) (fArgs (fun xs R => W B (xs ++ dd) fun d => flatN n d = true ∧ R d) fs) := by
  obtain ⟨f, fd, ds, dvs, F, hm, kp, hb, hd, hdd⟩ := c.ex
  exact de_callR F (hr.mono hk) hg hm kp hb hd hdd ha hdb he hpl
theorem de_C0 (c : Cal X.prog X.w X.K X.mg X.base x k ps m dd W) (hr : Room k' X.A) (hk : k ≤ k' := by decide) (hg : Gl X x := by rfl) (hdb : (x == ("__debug__" : Str)) = false := by decide) : DE X B (.Call (.Name x p) [] [] pos) m (fun _ R => W B dd R) := by
  obtain ⟨f, fd, ds, dvs, F, hm, kp, hb, hd, hdd⟩ := c.ex
  exact de_call0 F (hr.mono hk) hg hm kp hb hd hdd hdb
theorem de_Cm {mt : Str} (pl : Sem Bool) (c : CalM X.prog X.w X.K X.mg X.base C mt k ps m dd W) (hr : Room k' X.A) (ho : DE X B o (.own 0) fo) (ha : DA X B (e :: es) ms fs) (hk : k ≤ k' := by decide) (hms : ∀ m ∈ ms, m = .own 0 := by simp)
    (hst : starEach (e :: es) X.env = (false, eval e X.env) :: starEach es X.env := by rfl) (hpl : (backTo pos (starEach es X.env)).any (·.1) = false := by rfl)
    (ht : eval (.Call (.Attribute o mt apos) (e :: es) [] pos) X.env = (do
      let ov ← eval o X.env
      standAt apos.atName
      let (f, first) ← holding [ov] (getMethod ov mt pl)
      callWith pos f first (backTo pos (starEach (e :: es) X.env)) (backToKw pos (keywordEach [] X.env))) := by rfl) :
    DE X B (.Call (.Attribute o mt apos) (e :: es) [] pos) m (fun ρ R => fo ρ fun x => isObjD C mt x ∧ fs ρ fun xs => W B (x :: (xs ++ dd)) R) := by
  obtain ⟨f, fd, ds, dvs, F, hm, hb, hd, hdd⟩ := c.ex
  exact de_meth ho c.cl hm F (hr.mono hk) hb hd hdd ha hms hst hpl ht
theorem de_Cm0 {mt : Str} (pl : Sem Bool) (c : CalM X.prog X.w X.K X.mg X.base C mt k ps m dd W) (hr : Room k' X.A) (ho : DE X B o (.own 0) fo) (hk : k ≤ k' := by decide)
    (ht : eval (.Call (.Attribute o mt apos) [] [] pos) X.env = (do
      let ov ← eval o X.env
      standAt apos.atName
      let (f, first) ← holding [ov] (getMethod ov mt pl)
      callWith pos f first (backTo pos (starEach [] X.env)) (backToKw pos (keywordEach [] X.env))) := by rfl) :
    DE X B (.Call (.Attribute o mt apos) [] [] pos) m (fun ρ R => fo ρ fun x => isObjD C mt x ∧ W B (x :: dd) R) := by
  obtain ⟨f, fd, ds, dvs, F, hm, hb, hd, hdd⟩ := c.ex
  exact de_meth0 ho c.cl hm F (hr.mono hk) hb hd hdd ht
theorem de_Ck {W : FSpecM} (c : CalK X.prog X.w X.K X.mg X.base x C k n ps m dd W) (hr : Room k' X.A) (ha : DA X B (e :: es) ms fs) (hk : k + 1 ≤ k' := by decide) (hg : Gl X x := by rfl) (hms : ∀ m ∈ ms, m = .own 0 := by simp)
    (hdb : (x == ("__debug__" : Str)) = false := by decide) (he : starEach (e :: es) X.env = (false, eval e X.env) :: starEach es X.env := by rfl) (hpl : (backTo pos (starEach es X.env)).any (·.1) = false := by rfl) :
    DE X B (.Call (.Name x p) (e :: es) [] pos) (.own (n + 1)) (fArgs (fun xs R => W (.obj C []) (xs ++ dd) fun d s => d = .non ∧ R s) fs) := by
  obtain ⟨f, fd, ds, dvs, F, M, hm, hb, hd, hdd⟩ := c.ex
  exact de_make M F (hr.mono hk) hg hm hb hd hdd ha hms hdb he hpl
theorem de_Ck0 {W : FSpecM} (c : CalK X.prog X.w X.K X.mg X.base x C k n ps m dd W) (hr : Room k' X.A) (hk : k + 1 ≤ k' := by decide) (hg : Gl X x := by rfl) (hdb : (x == ("__debug__" : Str)) = false := by decide) :
    DE X B (.Call (.Name x p) [] [] pos) (.own (n + 1)) (fun _ R => W (.obj C []) dd fun d s => d = .non ∧ R s) := by
  obtain ⟨f, fd, ds, dvs, F, M, hm, hb, hd, hdd⟩ := c.ex
  exact de_make0 M F (hr.mono hk) hg hm hb hd hdd hdb
end
/-! ### stepping through data -/
theorem fVar_go {i n : Nat} {ρ : Env} {d : D} {R : D → Prop} (e : slot ρ i = some (n, d)) (h : R d) : fVar i n ρ R := by
  unfold fVar; rw [e]; exact ⟨rfl, h⟩
end GK

namespace GK
open PySem PySem.Spec PyProof.Rows L2
abbrev Hol (X : Cx) (scope : Scope) (own : List (Str × Nat)) : Prop := ∀ v ∈ own.map (·.2), ∃ x, X.N[v]? = some x ∧ ∀ C cl, (compEnvC scope cl C X.env).scope.names.lookup x = some .local
theorem hol_nil {X : Cx} {scope : Scope} : Hol X scope [] := fun v h => by cases h
theorem hol_cons {X : Cx} {scope : Scope} {own : List (Str × Nat)} {y x : Str} {i : Nat} (h1 : X.N[i]? = some x) (h2 : ∀ C cl, (compEnvC scope cl C X.env).scope.names.lookup x = some .local) (t : Hol X scope own) : Hol X scope ((y, i) :: own) := fun v h => by
  rcases List.mem_cons.mp h with e | e
  · rw [e]; exact ⟨x, h1, h2⟩
  · exact t v e
/-- a def called with keywords -/
structure CalN (P : Program) (w : World) (K : PySem.W.Frag) (mg : Str → Option Value) (base : Heap) (x : Str) (k : Nat) (ps : List Str) (m : Mode) (n : Nat) (ks : List Str) (gD : List D → List D → List D) (W : BSpec) : Prop where
  ex : ∃ (f : Addr) (fd : FuncData) (g : List Value → List Value → List Value) (gV : List V → List V → List V), FnOk P w K mg base CX0 k f fd ps (spD K m W) ∧ mg x = some (.ref f) ∧ PySem.W.keepIn K (.ref f) = true ∧ KBn K fd ps n ks g gV ∧
    ∀ F vs xs zs ys, RL K F vs xs → RL K F zs ys → RL K F (gV vs zs) (gD xs ys)
theorem de_CN {X : Cx} {B : List Addr} {k k' n : Nat} {ps ks : List Str} {x : Str} {p pos : Pos} {e : Expr} {es : List Expr} {kws : List Keyword} {m : Mode} {ms ms' : List Mode} {fs fk : FA} {W : BSpec} {gD : List D → List D → List D} (c : CalN X.prog X.w X.K X.mg X.base x k ps m n ks gD W) (hr : Room k' X.A)
    (ha : DA X B (e :: es) ms fs) (hkw : DKw X B kws ms' fk) (hk : k ≤ k' := by decide) (hg : Gl X x := by rfl) (hms : ∀ m ∈ ms, m = .own 0 := by simp) (hms' : ∀ m ∈ ms', m = .own 0 := by simp) (hn : (e :: es).length = n := by rfl) (hn' : kws.length = ks.length := by rfl)
    (hl : ms.length = (e :: es).length := by rfl) (hl' : ms'.length = kws.length := by rfl)
    (hall : (backToKw pos (keywordEach kws X.env)).all (·.1.isSome) = true := by rfl) (hks : (backToKw pos (keywordEach kws X.env)).filterMap (·.1) = ks := by rfl)
    (hdb : (x == ("__debug__" : Str)) = false := by decide) (he : starEach (e :: es) X.env = (false, eval e X.env) :: starEach es X.env := by rfl)
    (hpl : ((backTo pos (starEach (e :: es) X.env)).any (·.1) || (backToKw pos (keywordEach kws X.env)).any (·.1.isNone)) = false := by rfl) :
    DE X B (.Call (.Name x p) (e :: es) kws pos) m (fun ρ R => fs ρ fun xs => fk ρ fun ys => W B (gD xs ys) R) := by
  obtain ⟨f, fd, g, gV, F, hm, kp, hb, hgd⟩ := c.ex
  exact de_callN gD F (hr.mono hk) hg hm kp hb hgd ha hkw hms hms' hn hn' hl hl' hall hks hdb he hpl
end GK

namespace GK
open PySem PySem.Spec PyProof.Rows L2

/-! ### loops over data -/
theorem forD_go {t : D → Env → Option Env} {gb : FS} {E : DEnds} (I : List D → Env → Prop) (hs : ∀ x r ρ, I (x :: r) ρ → ∀ N : Env → Prop, (∀ ρ2, I r ρ2 → N ρ2) → ∃ ρ', t x ρ = some ρ' ∧ gb { E with nx := N, ct := N, bk := E.nx } ρ') (hd : ∀ ρ, I [] ρ → E.nx ρ) :
    ∀ xs ρ, I xs ρ → forD t gb xs E ρ
  | [], ρ, h => hd ρ h
  | x :: r, ρ, h => hs x r ρ h _ fun ρ2 h2 => forD_go I hs hd r ρ2 h2
theorem compD_go {t : D → Env → Option Env} {fc : FT} {fe : FE} {ρ : Env} {R : D → Prop} (I : List D → List D → Prop)
    (hs : ∀ x r acc, I (x :: r) acc → ∀ N : List D → Prop, (∀ a, I r a → N a) → ∃ ρ', t x ρ = some ρ' ∧ fc ρ' fun b => if b = true then fe ρ' fun y => acc.length < sizeLine ∧ N (acc ++ [y]) else N acc) (hd : ∀ acc, I [] acc → R (.lst acc)) :
    ∀ xs acc, I xs acc → compD t fc fe ρ xs acc R
  | [], acc, h => hd acc h
  | x :: r, acc, h => hs x r acc h _ fun a h2 => compD_go I hs hd r a h2
/-- each item answers by itself -/
theorem compD_map {Z : Type} (ι : Z → D) (φ : Z → Option D) {t : D → Env → Option Env} {fc : FT} {fe : FE} {ρ : Env} {R : D → Prop} {xs : List Z} (hs : ∀ x ∈ xs, ∀ N : Option D → Prop, N (φ x) → ∃ ρ', t (ι x) ρ = some ρ' ∧ fc ρ' fun b => if b = true then fe ρ' fun y => N (some y) else N none) (hl : xs.length ≤ sizeLine)
    (hR : R (.lst (xs.filterMap φ))) : compD t fc fe ρ (xs.map ι) [] R := by
  have key : ∀ (ys zs : List Z), zs ++ ys = xs → compD t fc fe ρ (ys.map ι) (zs.filterMap φ) R := by
    intro ys
    induction ys with
    | nil =>
      intro zs e
      rw [List.append_nil] at e
      subst e
      exact hR
    | cons x r ih =>
      intro zs e
      have hx : x ∈ xs := by rw [← e]; simp
      have hlen : (zs.filterMap φ).length < sizeLine := by
        have h1 := List.length_filterMap_le φ zs
        have h2 := congrArg List.length e
        rw [List.length_append, List.length_cons] at h2
        omega
      have nxt := ih (zs ++ [x]) (by rw [← e]; simp)
      rw [List.filterMap_append] at nxt
      exact hs x hx (fun o => match o with
        | some y => (zs.filterMap φ).length < sizeLine ∧ compD t fc fe ρ (r.map ι) (zs.filterMap φ ++ [y]) R
        | none => compD t fc fe ρ (r.map ι) (zs.filterMap φ) R) (by
          cases q : φ x with
          | none =>
            have e1 : [x].filterMap φ = [] := by simp [q]
            rw [e1, List.append_nil] at nxt
            exact nxt
          | some y =>
            have e1 : [x].filterMap φ = [y] := by simp [q]
            rw [e1] at nxt
            exact ⟨hlen, nxt⟩)
  exact key xs [] rfl
theorem compDD_map {Z : Type} (ι : Z → D) (step : D → Z → Option D) {t : D → Env → Option Env} {fc : FT} {fk fv : FE} {ρ : Env} {R : D → Prop} {xs : List Z} {acc : D} (hs : ∀ x ∈ xs, ∀ a : D, ∀ N : D → Prop, (∀ a', step a x = some a' → N a') → ∃ ρ', t (ι x) ρ = some ρ' ∧ fc ρ' fun b => if b = true then fk ρ' fun k => fv ρ' fun v => ∃ a', putDD a k v = some a' ∧ N a' else N a)
    (last : D) (hf : xs.foldlM step acc = some last) (hR : R last) : compDD t fc fk fv ρ (xs.map ι) acc R := by
  induction xs generalizing acc with
  | nil =>
    have e : acc = last := Option.some.inj hf
    subst e
    exact hR
  | cons x r ih =>
    rw [List.foldlM_cons] at hf
    cases q : step acc x with
    | none => rw [q] at hf; cases hf
    | some a' =>
      rw [q] at hf
      exact hs x List.mem_cons_self acc (fun a => compDD t fc fk fv ρ (r.map ι) a R) fun a2 e2 => by
        rw [q] at e2
        cases e2
        exact ih (fun y hy => hs y (List.mem_cons_of_mem _ hy)) hf
/-- .. from any state on -/
theorem compDD_go {t : D → Env → Option Env} {fc : FT} {fk fv : FE} {ρ : Env} {R : D → Prop} (I : List D → D → Prop)
    (hs : ∀ x r acc, I (x :: r) acc → ∀ N : D → Prop, (∀ a, I r a → N a) → ∃ ρ', t x ρ = some ρ' ∧ fc ρ' fun b => if b = true then fk ρ' fun k => fv ρ' fun v => ∃ a', putDD acc k v = some a' ∧ N a' else N acc) (hd : ∀ acc, I [] acc → R acc) :
    ∀ xs acc, I xs acc → compDD t fc fk fv ρ xs acc R
  | [], acc, h => hd acc h
  | x :: r, acc, h => hs x r acc h _ fun a h2 => compDD_go I hs hd r a h2
/-! ### small steps -/
theorem gIsi_go {K : PySem.W.Frag} {d : D} {a n : String} {b : Bool} {R : D → Prop} (ht : tyD d = some (.type a)) (hk : kitB a n = some b) (hn : ∀ C es, d ≠ .obj C es) (h : R (.bl b)) : gIsi K [d, .raw (.ty n)] R :=
  ⟨_, _, b, ht, rfl, kit_ty hk, fun C es e => absurd e (hn C es), h⟩
theorem gFld_go {C : Addr} {f : Str} {es : List (Str × D)} {d : D} {R : D → Prop} (h : es.lookup f = some d) (q : R d) : gFld C f (.obj C es) R := ⟨rfl, d, h, q⟩
theorem gNotV_bl {b : Bool} {R : D → Prop} : gNotV (.bl b) R = R (.bl (!b)) := rfl
theorem gEqA_int {n : Bool} {i j : Int} {R : D → Prop} : gEqA n (.int i) (.int j) R = R (.bl (n ^^ decide (i = j))) := rfl
theorem gEqA_str {n : Bool} {i j : Str} {R : D → Prop} : gEqA n (.str i) (.str j) R = R (.bl (n ^^ decide (i = j))) := rfl
theorem gEqA_bl {n : Bool} {i j : Bool} {R : D → Prop} : gEqA n (.bl i) (.bl j) R = R (.bl (n ^^ decide (i = j))) := rfl
theorem bOf_bl {b : Bool} {R : Bool → Prop} : bOf R (.bl b) = R b := rfl
theorem g2I_int {c : Int → Int → Prop} {h : Int → Int → D} {i j : Int} {R : D → Prop} : g2I c h (.int i) (.int j) R = (c i j ∧ R (h i j)) := rfl
theorem g2I0_int {h : Int → Int → D} {i j : Int} {R : D → Prop} : g2I0 h (.int i) (.int j) R = R (h i j) := rfl
theorem g1I_int {h : Int → D} {i : Int} {R : D → Prop} : g1I h (.int i) R = R (h i) := rfl
theorem gLen_lst {ds : List D} {R : D → Prop} : gLen [.lst ds] R = R (.int ds.length) := rfl
theorem gLen_tup {ds : List D} {R : D → Prop} : gLen [.tup ds] R = R (.int ds.length) := rfl
theorem gInt_int {i : Int} {R : D → Prop} : gInt [.int i] R = R (.int i) := rfl
theorem gMax2_int {i j : Int} {R : D → Prop} : gMax2 [.int i, .int j] R = R (.int (if j > i then j else i)) := rfl
theorem gMin2_int {i j : Int} {R : D → Prop} : gMin2 [.int i, .int j] R = R (.int (if j < i then j else i)) := rfl
theorem gIsN_non {n : Bool} {R : D → Prop} : gIsN n .non .non R = R (.bl (!n)) := rfl
theorem gIsN_obj {n : Bool} {C : Addr} {es : List (Str × D)} {R : D → Prop} : gIsN n (.obj C es) .non R = R (.bl n) := rfl
theorem gIsN_dT {n : Bool} {es : List (List Key × D)} {R : D → Prop} : gIsN n (.dT es) .non R = R (.bl n) := rfl
theorem gIsN_dK {n : Bool} {es : List (Key × D)} {R : D → Prop} : gIsN n (.dK es) .non R = R (.bl n) := rfl
theorem gIsN_int {n : Bool} {i : Int} {R : D → Prop} : gIsN n (.int i) .non R = R (.bl n) := rfl
theorem xsOf_lst {xs : List D} {R : List D → Prop} : xsOf R (.lst xs) = R xs := rfl
theorem tsOf_tup {xs : List D} {R : List D → Prop} : tsOf R (.tup xs) = R xs := rfl
theorem atI_0 {α : Type} {a : α} {r : List α} : atI (a :: r) 0 = some a := by
  unfold atI ixN
  rw [if_pos (by decide), if_pos (by rw [List.length_cons]; omega)]; rfl
theorem atI_1 {α : Type} {a b : α} {r : List α} : atI (a :: b :: r) 1 = some b := by
  unfold atI ixN
  rw [if_pos (by decide), if_pos (by rw [List.length_cons, List.length_cons]; omega)]; rfl
theorem atI_2 {α : Type} {a b c : α} {r : List α} : atI (a :: b :: c :: r) 2 = some c := by
  unfold atI ixN
  rw [if_pos (by decide), if_pos (by rw [List.length_cons, List.length_cons, List.length_cons]; omega)]; rfl
theorem ex_some {α : Type} {a : α} {R : α → Prop} : (∃ d, some a = some d ∧ R d) = R a := by
  apply propext
  exact ⟨fun ⟨d, e, h⟩ => by cases e; exact h, fun h => ⟨a, rfl, h⟩⟩
theorem gIx_t0 {a : D} {r : List D} {R : D → Prop} : gIx (.tup (a :: r)) (.int 0) R = R a := by
  show (∃ d, atI (a :: r) 0 = some d ∧ R d) = R a
  rw [atI_0]; exact ex_some
theorem gIx_t1 {a b : D} {r : List D} {R : D → Prop} : gIx (.tup (a :: b :: r)) (.int 1) R = R b := by
  show (∃ d, atI (a :: b :: r) 1 = some d ∧ R d) = R b
  rw [atI_1]; exact ex_some
theorem gIx_l0 {a : D} {r : List D} {R : D → Prop} : gIx (.lst (a :: r)) (.int 0) R = R a := by
  show (∃ d, atI (a :: r) 0 = some d ∧ R d) = R a
  rw [atI_0]; exact ex_some
theorem gIx_l1 {a b : D} {r : List D} {R : D → Prop} : gIx (.lst (a :: b :: r)) (.int 1) R = R b := by
  show (∃ d, atI (a :: b :: r) 1 = some d ∧ R d) = R b
  rw [atI_1]; exact ex_some
theorem gIx_l2 {a b c : D} {r : List D} {R : D → Prop} : gIx (.lst (a :: b :: c :: r)) (.int 2) R = R c := by
  show (∃ d, atI (a :: b :: c :: r) 2 = some d ∧ R d) = R c
  rw [atI_2]; exact ex_some
/-- an item of a list by its number -/
theorem gIx_nat {ds : List D} {k : Nat} {d : D} {R : D → Prop} (h : ds[k]? = some d) (q : R d) : gIx (.lst ds) (.int (k : Int)) R := by
  refine ⟨d, ?_, q⟩
  have hk := (List.getElem?_eq_some_iff.mp h).1
  unfold atI ixN
  rw [if_pos (by omega), if_pos (by omega)]
  exact h
theorem tgN_go {i : Nat} {d : D} {ρ : Env} (h : i < ρ.length) : tgN i d ρ = some (ρ.set i (some (0, d))) := if_pos h
theorem fVar_0 {n k : Nat} {d : D} {r : Env} {R : D → Prop} : fVar 0 n (some (k, d) :: r) R = (k = n ∧ R d) := rfl
theorem fVar_s {i n : Nat} {o : Option (Nat × D)} {r : Env} {R : D → Prop} : fVar (i + 1) n (o :: r) R = fVar i n r R := rfl
theorem wipe_nil {ρ : Env} : wipeE ρ [] = ρ := rfl
theorem wipe_cons {ρ : Env} {v : Nat} {vs : List Nat} : wipeE ρ (v :: vs) = (wipeE ρ vs).set v none := rfl
end GK

namespace GK
open PySem PySem.Spec PyProof.Rows L2

/-! ### C(..), the arguments some that others own -/
theorem Post.ofRd {K : PySem.W.Frag} {B A : List Addr} {F H : Hp} {n : Nat} {R : D → Prop} {Q : VK} (w : WF B F H) (k : Post K B A F H (.own n) R Q) : Post K B [] (rdH B H) H (.own n) (fun d => flatN n d = true ∧ R d) Q := fun F' H' v d fp s hv ho hn hR => by
  have hv : Own K F' H' n v d fp := hv
  have s2 : Step B A F H F H' := ⟨s.same, fun _ _ h => h, fun _ _ h => .inl h, ⟨fun a u e => rdH_same s.same a u (w.sub a u e), s.wf.lock, s.wf.bag⟩⟩
  have ht := hv.there
  refine k _ H' v d fp s2.addT (Own.flat (fun a vs e => addT_tup s2.wf.sub (s.wf.sub _ _ e)) hR.1 hv) (fun a ha => ?_) hn hR.2
  obtain ⟨h1, h2, h3⟩ := ho a ha
  refine ⟨h1.elim (fun h => by cases h) .inr, ?_, h3⟩
  have hz : H a = none := h1.elim (fun h => by cases h) id
  obtain ⟨o, e, mu⟩ := ht a ha
  cases q : addT F (rdH B H') a with
  | none => rfl
  | some u =>
    exfalso
    rcases addT_cases q with z | ⟨z, t⟩
    · rw [F_none w hz] at z; cases z
    · obtain ⟨_, x, ex, er⟩ := rdH_some z
      rw [e] at ex; cases ex
      rw [mut_er mu] at er; subst er
      cases o <;> first | exact mu | exact t
theorem de_CkR {X : Cx} {B : List Addr} {k k' n : Nat} {C : Addr} {ps : List Str} {x : Str} {p pos : Pos} {e : Expr} {es : List Expr} {m : Mode} {ms : List Mode} {fs : FA} {dd : List D} {W : FSpecM} (c : CalK X.prog X.w X.K X.mg X.base x C k n ps m dd W) (hr : Room k' X.A) (ha : DA X B (e :: es) ms fs)
    (hk : k + 1 ≤ k' := by decide) (hg : Gl X x := by rfl) (hdb : (x == ("__debug__" : Str)) = false := by decide) (he : starEach (e :: es) X.env = (false, eval e X.env) :: starEach es X.env := by rfl) (hpl : (backTo pos (starEach es X.env)).any (·.1) = false := by rfl) :
    DE X B (.Call (.Name x p) (e :: es) [] pos) (.own (n + 1)) (fArgs (fun xs R => W (.obj C []) (xs ++ dd) fun d s => d = .non ∧ flatN (n + 1) s = true ∧ R s) fs) := by
  obtain ⟨f, fd, ds, dvs, F, M, hm, hb, hd, hdd⟩ := c.ex
  exact PE.imp (pe_make M F (hr.mono hk) hg hm hb hd pass0 ha hdb he hpl) fun σ H Q ⟨F, ρ, fp, R, S, hf, k⟩ => ⟨F, ρ, fp, _, S, hf, fun F1 H1 vs xs fp1 s1 hv o1 n1 hW x dx hx hdx ne =>
    make_ok (wf_rd s1.wf) ((hv.rd s1.wf fun a ha => (o1 a ha).2.2).append (hdd _)) hx hdx ne hW ((k.after s1 (A1 := fp1) fun a ha => (o1 a ha).1).ofRd s1.wf)⟩
end GK

namespace GK
open PySem PySem.Spec PyProof.Rows L2

/-! ### insert; get with one argument; tuple(xs); list(range(n)) -/
theorem OwnL.cut {P : V → D → List Addr → Prop} : ∀ {vs : List V} {ds : List D} {f : List Addr} (k : Nat), OwnL P vs ds f → ∃ g h, f = g ++ h ∧ OwnL P (vs.take k) (ds.take k) g ∧ OwnL P (vs.drop k) (ds.drop k) h
  | vs, ds, f, 0, o => ⟨[], f, rfl, rfl, o⟩
  | [], [], f, k + 1, o => ⟨f, [], (List.append_nil f).symm, o, rfl⟩
  | v :: vs, d :: ds, f, k + 1, ⟨f1, f2, e, h, t⟩ => by
    obtain ⟨g, g', e', h1, h2⟩ := OwnL.cut k t
    exact ⟨f1 ++ g, g', by rw [e, e', List.append_assoc], ⟨f1, g, rfl, h, h1⟩, h2⟩
def insD (ds : List D) (j : Nat) (d : D) : List D := ds.take j ++ [d] ++ ds.drop j
theorem OwnL.insert {P : V → D → List Addr → Prop} {v : V} {d : D} {g : List Addr} (q : P v d g) {vs : List V} {ds : List D} {f : List Addr} (k : Nat) (h : OwnL P vs ds f) (nd : (f ++ g).Nodup) :
    ∃ f', OwnL P (vs.take k ++ [v] ++ vs.drop k) (insD ds k d) f' ∧ (∀ a ∈ f', a ∈ f ∨ a ∈ g) ∧ f'.Nodup := by
  obtain ⟨f1, f2, e, h1, h2⟩ := h.cut k
  subst e
  refine ⟨f1 ++ g ++ f2, (h1.append (OwnL.one q)).append h2, fun a ha => ?_, ?_⟩
  · simp only [List.mem_append] at ha ⊢
    rcases ha with (z | z) | z
    · exact .inl (.inl z)
    · exact .inr z
    · exact .inl (.inr z)
  · simp only [List.nodup_append, List.mem_append] at nd ⊢
    obtain ⟨⟨n1, n2, n3⟩, n4, n5⟩ := nd
    refine ⟨⟨n1, n4, fun a ha b hb => n5 a (.inl ha) b hb⟩, n2, fun a ha b hb => ?_⟩
    rcases ha with z | z
    · exact n3 a z b hb
    · exact fun e => n5 b (.inr hb) a z e.symm
section
variable {X : Cx} {ej e : Expr} {pin n i : Nat} {m : Mode} {fj fe : FE} {x : Str} {pos p apos cpos : Pos}
/-- x.insert(j, e) -/
theorem dm_insert (i n : Nat) (hj : DE X B ej (.own 0) fj) (he : DE X B e (.own n) fe) (hN : NameOk X i x := by exact ⟨rfl, by first | exact Or.inl rfl | exact Or.inr (Or.inl rfl) | exact Or.inr (Or.inr rfl), by decide, by decide⟩) (hb : BmOk X (.Name x p) "insert" apos ej [e] cpos := by exact ⟨rfl, rfl, rfl, rfl, rfl⟩)
    (hs : starEach [e] X.env = (false, eval e X.env) :: starEach [] X.env := by rfl) :
    DM X B (.Call (.Attribute (.Name x p) "insert" apos) [ej, e] [] cpos) pin m (fun ρ R => ownLst ρ i n (fun _ => True) ∧ fj ρ fun j => fe ρ fun d => ∃ j', j = .int j' ∧ 0 ≤ j' ∧ j' < 2 ^ 63 ∧ ownLst ρ i n fun ds => ds.length < sizeLine ∧ R .non (ρ.set i (some (n + 1, .lst (insD ds j'.toNat d))))) :=
  PE.imp (pe_bm PySem.F.plainAttrs_list PySem.F.slot_list_insert PySem.F.type_list_insert mt_insert (pe_var hN.1 hN.2 hN.3 hN.4) (da_cons hj (da_cons he da_nil hs) hb.4) hb.1 hb.2 hb.3 hb.4 hb.5) fun σ H Q ⟨Pn, Z0, F0, F, ρ, fp, R, hpl, S, ⟨h0, hf⟩, k⟩ => by
    obtain ⟨ds0, e0, _⟩ := h0.inv
    obtain ⟨a, vs, g, h1, h2, h3, h4, h5, h6, kk⟩ := S.lst e0
    refine ⟨_, h1, .inl ⟨rfl, _, SqL.of h2⟩, F, ρ, fp, fun xs => ∃ j d, xs = [j, d] ∧ ∃ j', j = .int j' ∧ 0 ≤ j' ∧ j' < 2 ^ 63 ∧ ownLst ρ i n fun ds => ds.length < sizeLine ∧ R .non (ρ.set i (some (n + 1, .lst (insD ds j'.toNat d)))), S.base, ?_, fun F' H' ws xs fx s hw ox nx ⟨j, d, ex, j', ej', l1, l2, hR⟩ => ?_⟩
    · show fj ρ fun x => fe ρ fun y => ∃ j d, [x, y] = [j, d] ∧ _
      have : (fun x => fe ρ fun y => ∃ j d, [x, y] = [j, d] ∧ ∃ j', j = .int j' ∧ 0 ≤ j' ∧ j' < 2 ^ 63 ∧ ownLst ρ i n fun ds => ds.length < sizeLine ∧ R .non (ρ.set i (some (n + 1, .lst (insD ds j'.toNat d))))) = fun x => fe ρ fun y => ∃ j', x = .int j' ∧ 0 ≤ j' ∧ j' < 2 ^ 63 ∧ ownLst ρ i n fun ds => ds.length < sizeLine ∧ R .non (ρ.set i (some (n + 1, .lst (insD ds j'.toNat y)))) := by
        funext x
        congr 1
        funext y
        exact propext ⟨fun ⟨j, d, e, h⟩ => by cases e; exact h, fun h => ⟨x, y, rfl, h⟩⟩
      rw [this]; exact hf
    subst ex
    subst ej'
    obtain ⟨w1, w2, f1, f2, ew, hw1, hw2, ef⟩ := hw.two
    subst ew
    obtain ⟨rfl, rfl⟩ := hw1.int
    obtain ⟨ds, e1, hz, hR⟩ := hR.inv
    have S' := S.step s fun a h => (by cases h)
    have ap := S.apart ox nx
    rw [List.nil_append] at ef
    subst ef
    obtain ⟨a', vs', g', h1', h2', h3', h4', h5', h6', kk'⟩ := S'.lst e1
    rw [h1] at h1'
    cases h1'
    have hw2 : Own X.K F' H' n w2 d fx := hw2
    obtain ⟨g2, o2, sub, nd⟩ := OwnL.insert hw2 j'.toNat h3' (nd_of h5' ap.2 fun b hb z => (ap.1 b hb).2.2.2 (h6' b (List.mem_cons_of_mem _ z)))
    obtain ⟨fp2, S3⟩ := kk' _ _ g2 fx ap sub nd o2
    exact ⟨a, vs', j', w2, rfl, rfl, h2', by rw [h3'.len]; exact hz, l1, l2, k F' _ _ fp2 .non .non [] S3 (Val.atom rfl fun _ => .non) .nil hR⟩
/-- d.get(k) -/
def gDGet1 (d k : D) (R : D → Prop) : Prop := ∃ o, lookD d k = some o ∧ R (o.getD .non)
theorem de_dget1 {a b : Expr} {m m' : Mode} {f f' : FE} (hu : X.A.units + 1 < cLine) (ha : DE X B a m f) (hb : DE X B b .rd f') (hm : m.look = true := by rfl) (hc : m' = m.child := by rfl)
    (M : M1 X a "get" apos b cpos := by exact ⟨rfl, rfl, rfl, rfl⟩) : DE X B (.Call (.Attribute a "get" apos) [b] [] cpos) m' (fun ρ R => f ρ fun d => isDctD d ∧ f' ρ fun k => gDGet1 d k R) := by
  subst hc
  exact PE.imp (pe_dget1 hu ha hb M) fun σ H Q ⟨F, ρ, fp, R, S, hf, k⟩ => by
    refine ⟨F, ρ, fp, _, S, hf, fun F1 H1 v d f1 s1 hv o1 n1 ⟨hd, hg⟩ => ?_⟩
    obtain ⟨a, rfl, hd', haB⟩ := isDctD.of hm s1.wf hv hd
    refine ⟨a, rfl, hd', F1, ρ, fp, _, S.step s1 (fun a ha => by cases ha), hg, fun F2 H2 kv kd f2 s2 hkv o2 n2 ⟨o, ho, hR⟩ => ?_⟩
    have hv2 := hv.step s2 fun a ha => (o1 a ha).2.2
    obtain ⟨a', ov, ea, g, _, h⟩ := look_ok (m := m) (mk := .rd) (f2 := []) hm s2.wf hv2 hkv.1 ho
    cases ea
    have k2 := (k.after s1 (A1 := []) fun a h => by cases h).after s2 (A1 := []) fun a h => by cases h
    refine ⟨ov, g, ?_⟩
    rcases h with ⟨q, q'⟩ | ⟨x', y', e1, e2, hy⟩
    · rw [q']
      rw [q] at hR
      exact k2.non s2.wf hR
    · rw [e2]
      rw [e1] at hR
      exact k2.val s2.wf hy hR
/-- tuple(xs) -/
def gTupL : List D → (D → Prop) → Prop
  | [.lst ds], R => R (.tup ds)
  | [.tup ds], R => R (.tup ds)
  | _, _ => False
theorem opN_tupL {K : PySem.W.Frag} : OpN K (fun xs H Q => ∃ p ys, xs = [.ref p] ∧ ((SqL K H p ys ∧ ∀ l, H l = none → Q (.ref l) (upd H l (.tup ys))) ∨ (SqT K H p ys ∧ Q (.ref p) H))) [.own 0] (.own 0) gTupL := by
  intro B F H vs ds fp R Q w hv hf hg k
  unfold gTupL at hg
  split at hg
  · obtain ⟨v, rfl, h⟩ := hv.one
    obtain ⟨a, xs, rfl, ha, r⟩ := (show GK.R K F v _ from h.1).lstI
    exact ⟨a, xs, rfl, .inl ⟨sqL_rd (w.sub _ _ ha), fun l hl => k.newTup w r hg hl⟩⟩
  · obtain ⟨v, rfl, h⟩ := hv.one
    obtain ⟨a, xs, rfl, ha, r⟩ := (show GK.R K F v _ from h.1).tupI
    exact ⟨a, xs, rfl, .inr ⟨sqT_rd (w.sub _ _ ha), k F H _ _ [] (Step.refl w) ⟨h.1, rfl⟩ (fun a h => by cases h) List.nodup_nil hg⟩⟩
  · exact hg.elim
theorem de_tupL {f : FE} (hz : X.mg "tuple" = none) (ha : DE X B e (.own 0) f) (hg : Gl X "tuple" := by rfl) (he : starEach [e] X.env = (false, eval e X.env) :: starEach [] X.env := by rfl) (hpl : (backTo pos (starEach [] X.env)).any (·.1) = false := by rfl) :
    DE X B (.Call (.Name "tuple" p) [e] [] pos) (.own 0) (fArgs gTupL (fCons f fNil)) := de_Ty call_tuple_of opN_tupL hg hz (by decide +kernel) (da_cons ha da_nil he) (by decide) (by decide) he hpl
/-- list(range(n)) -/
def gLRg (R : D → Prop) : D → Prop
  | .int n => 0 ≤ n ∧ n ≤ 16777216 ∧ R (.lst (rangeD 0 n.toNat))
  | _ => False
theorem rl_rng {K : PySem.W.Frag} {F : Hp} : ∀ (xs : List Int), RL K F (xs.map V.int) (xs.map D.int)
  | [] => .nil
  | x :: xs => .cons (.int x) (rl_rng xs)
theorem de_listRg {f : FE} {p2 pos2 : Pos} {m1 : Mode} (hc : X.calm = true) (hz : X.mg "list" = none) (hr : X.mg "range" = none) (ha : DE X B e m1 f) (hg : Gl X "list" := by rfl) (hg2 : Gl X "range" := by rfl) (he : starEach [e] X.env = (false, eval e X.env) :: starEach [] X.env := by rfl)
    (he2 : starEach [.Call (.Name "range" p2) [e] [] pos2] X.env = (false, eval (.Call (.Name "range" p2) [e] [] pos2) X.env) :: starEach [] X.env := by rfl) :
    DE X B (.Call (.Name "list" p) [.Call (.Name "range" p2) [e] [] pos2] [] pos) (.own 1) (fun ρ R => f ρ (gLRg R)) :=
  PE.imp (pe_listRg hc hg hz (prg_1 hg2 hr ha he) he2) fun σ H Q ⟨F, ρ, fp, R, S, hf, k⟩ => by
    refine ⟨F, ρ, fp, _, S, hf, fun F1 H1 v d f1 s1 hv o1 n1 hd => ?_⟩
    cases d <;> try exact (show False from hd).elim
    rename_i n
    obtain ⟨rfl, _⟩ := hv.int
    obtain ⟨h0, h1, hR⟩ := hd
    refine ⟨n, rfl, RgOk.of_le (Int.le_refl 0) h1 (by decide) h0, fun q hq => ?_⟩
    have e1 : rgV 0 n = ((List.range n.toNat).map fun i : Nat => (0 : Int) + (i : Int)).map V.int := by unfold rgV; rw [List.map_map, Int.sub_zero]; rfl
    have e2 : rangeD 0 n.toNat = ((List.range n.toNat).map fun i : Nat => (0 : Int) + (i : Int)).map D.int := by unfold rangeD; rw [List.map_map]; rfl
    rw [e1]
    rw [e2] at hR
    exact (k.after s1 (A1 := []) fun a h => by cases h).newLst0 s1.wf (rl_rng _) hR hq
end
end GK

namespace GK
open PySem PySem.Spec PyProof.Rows L2

/-! ### enumerate of a list or a tuple -/
theorem fld_ne {h : Heap} {a b : Addr} {u v : Obj} {c1 c2 : String} (e1 : h.get? a = some u) (e2 : h.get? b = some v) (q1 : u.cls = .type c1) (q2 : v.cls = .type c2) (n : c1 ≠ c2) : a ≠ b := fun e => by
  subst e
  rw [e1] at e2
  cases e2
  rw [q1] at q2
  exact n (Value.type.inj q2)
section
open AutoSeq1 (wpAny_loadPart')
theorem enum_new1 {v : Value} {ob : Obj} {Z : Heap → Prop} (bg : Begins v ob Z) : Meets (Builtin.«enumerate.__new__» ⟨[.type "enumerate", v], []⟩) (fun _ R s => Z s.heap ∧
      R (.ok (.ret (.ref (s.heap.push ob).objs.size))) { s with heap := (s.heap.push ob).push { cls := .type "enumerate", data := .fields #[.none, .bool false, .ref s.heap.objs.size, rawInt 0, .none, .none] } }) :=
  .of_wp fun P w A R s h => by
    obtain ⟨hp, gg, dd, tt, oo⟩ := s
    obtain ⟨hz, h⟩ := h
    have su := sub_enumerate
    have it1 : ∀ {A' : Around} {E : Value → Shared → Prop} {Q : Value → Shared → Prop}, Q (.ref hp.objs.size) ⟨hp.push ob, gg, dd, tt, oo⟩ → wpAny (model P w) A' (pyIter v) Q E ⟨hp, gg, dd, tt, oo⟩ :=
      fun q => bg.iter P w _ _ ⟨hp, gg, dd, tt, oo⟩ _ hz q
    wp_walk using it1
    refine wpAny_stack_any fun st => wpAny_pure ?_
    split
    · rename_i c _ _ _ _ _
      cases (c == Value.type "enumerate") <;> (wp_walk using it1; exact ⟨_, rfl, h⟩)
    · wp_walk using it1
      exact ⟨_, rfl, h⟩
end
section
variable {P : Program} {w : World} {A : Around} {E : Value → Shared → Prop} {s : Shared}
theorem enum_call1 {v : Value} {ob : Obj} {Z : Heap → Prop} {Q : Value → Shared → Prop} (bg : Begins v ob Z) (hz : Z s.heap)
    (k : ∀ g', IsEnum g' (s.heap.objs.size + 1) s.heap.objs.size 0 .none → g'.get? s.heap.objs.size = some ob → (∀ b u, s.heap.get? b = some u → g'.get? b = some u) → Q (.ref (s.heap.objs.size + 1)) { s with heap := g' }) :
    wpAny (model P w) A (call (.type "enumerate") [v]) Q E s := by
  refine callType_new F.called_enumerate (by decide) (F.typeCall_enumerate_1 _) (F.newCall_enumerate_1 _) (fun q => F.args_object_init_2 q _) F.entry_enumerate_new (enum_new1 bg) ⟨hz, ?_⟩
  have sz : (s.heap.push ob).objs.size = s.heap.objs.size + 1 := Heap.size_push ..
  show _ ∧ _
  rw [sz]
  have ie : IsEnum ((s.heap.push ob).push { cls := .type "enumerate", data := .fields #[.none, .bool false, .ref s.heap.objs.size, rawInt 0, .none, .none] }) (s.heap.objs.size + 1) s.heap.objs.size 0 .none := by
    have q := Heap.get?_push_size (s.heap.push ob) (o := { cls := .type "enumerate", data := .fields #[.none, .bool false, .ref s.heap.objs.size, rawInt 0, .none, .none] }) rfl
    rw [sz] at q; exact q
  exact ⟨⟨_, ie, rfl⟩, k _ ie (Heap.get?_push_of_some _ (Heap.get?_push_size _ bg.free)) fun b u x => Heap.get?_push_of_some _ (Heap.get?_push_of_some _ x)⟩
end
/-- the items of the tuple at a, numbered -/
def Itet (K : PySem.W.Frag) (a : Addr) : It :=
  ⟨fun i H => ∃ (xs : List V) (x : V), SqT K H a xs ∧ xs[i]? = some x, fun i H v H' => ∃ T x, v = .ref T ∧ H T = none ∧ H' = upd H T (.tup [.int (i : Nat), x]) ∧ ∀ xs, SqT K H a xs → xs[i]? = some x, fun i H => ∃ xs : List V, SqT K H a xs ∧ xs.length ≤ i⟩
theorem turn_enumT {P : Program} {w : World} {K : PySem.W.Frag} {elts : List Expr} {kk : Nat} {tpos : Pos} (a e it : Addr) :
    Turn P w K (.Tuple elts kk tpos) (Itet K a) [e, it] e (fun i h => (∃ old, IsEnum h e it ((i : Nat) : Int) old) ∧ h.IsTupleIter it a i ∧ e ≠ it) where
  mem := by simp
  obj := fun i h st b hb => by
    obtain ⟨⟨old, he⟩, ⟨o, ho, hc, hd⟩, _⟩ := st
    rcases (show b = e ∨ b = it by simpa using hb) with z | z
    · rw [z]; exact ⟨_, he, fun v q => nomatch q⟩
    · rw [z]; exact ⟨o, ho, fun v q => by rw [hd] at q; cases q⟩
  keep := fun i h g' st k => let ⟨⟨old, he⟩, hi, hne⟩ := st; ⟨⟨old, k e (by simp) _ he⟩, hi.at fun o q => k it (by simp) o q, hne⟩
  item := by
    intro X e1 e2 e3 hc i pins s σ H E I hf st ⟨xs, x, hq, hx⟩
    subst e1 e2 e3
    obtain ⟨⟨old, he⟩, hit, hne⟩ := st
    obtain ⟨its, rv, p, hz⟩ := I.tuple hq
    obtain ⟨u, hu, ru⟩ := rv.get hx
    have hlt : i < its.toArray.size := by rw [List.size_toArray]; exact (List.getElem?_eq_some_iff.mp hu).1
    have hel : e < s.heap.objs.size := Heap.lt_size he
    obtain ⟨ot, eo, co, do1⟩ := id hit
    obtain ⟨ol, el, cl, rl⟩ := id (show s.heap.IsTuple a its.toArray from p)
    have nai : a ≠ it := fld_ne el eo cl co (by decide)
    have nae : a ≠ e := fld_ne el he cl rfl (by decide)
    refine wpAny_pyNext_enum_itemD (Draws.tuple (prog := X.prog) (w := X.w) (A := X.A.in1) (I.ok.hd hc) it a nai its.toArray) he ⟨hit, p⟩ hlt hne (by simp [hne, Ne.symm nae]) fun y g' tk hy ho ⟨hit2, _⟩ hT hsz hk => ?_
    have ey : y = u := by
      have : its.toArray[i]? = some u := by simpa using hu
      rw [this] at hy; cases hy; rfl
    subst ey
    refine ⟨_, rfl, wpAny_letOwnedTupleGo_enum (s := { s with heap := g', toks := tk + 1 }) ho fun g2 he2 sb => ?_⟩
    have hT2 : g2.get? s.heap.objs.size = some { cls := .type "tuple", data := .seq #[.int i tk, y] } := (sb.2 _ (Nat.ne_of_gt hel)).trans hT
    have nw : ObjOk X.prog X.w (upd H s.heap.objs.size (.tup [.int (i : Nat), x])) g2 s.heap.objs.size (.tup [.int (i : Nat), x]) := ⟨by show 2 ≤ sizeLine; decide, [.int i tk, y], .cons ⟨_, rfl⟩ (.cons ru .nil), ⟨_, hT2, rfl, _, rfl⟩⟩
    have I1 : Inv X pins σ (upd H s.heap.objs.size (.tup [.int (i : Nat), x])) { s with heap := g2, toks := tk + 1 } := I.turnedNew (ch := [e, it]) (fun b ob hb q => (sb.2 b (fun z => hb (by simp [z]))).trans (hk b ob (fun z => hb (by simp [z])) (fun z => hb (by simp [z])) q)) hf (Nat.le_refl _) nw
    refine ⟨.ref s.heap.objs.size, _, I1, rfl, ⟨_, x, rfl, I.hok.fresh (Nat.le_refl _), rfl, fun ys hy => by rw [I.tuple_inj hy hq]; exact hx⟩, ⟨⟨y, ?_⟩, hit2.at fun o q => (sb.2 it (Ne.symm hne)).trans q, hne⟩, fun b hb => ?_⟩
    · rw [show ((i + 1 : Nat) : Int) = (i : Int) + 1 by omega]
      exact he2
    · have lb : b < s.heap.objs.size := by
        rcases (show b = e ∨ b = it by simpa using hb) with z | z
        · rw [z]; exact hel
        · rw [z]; exact Heap.lt_size eo
      rw [upd_ne (Nat.ne_of_lt lb)]
      exact (hf b hb).1
  done := by
    intro X e1 e2 e3 hc i pins s σ H E I hf st ⟨xs, hq, hx⟩
    subst e1 e2 e3
    obtain ⟨⟨old, he⟩, hit, hne⟩ := st
    obtain ⟨its, rv, p, hz⟩ := I.tuple hq
    obtain ⟨f0, f1, f2, f3, f4, f5⟩ := hf it (by simp)
    have hl := rv.length
    refine wpAny_pyNext_enum_endD (it := it) (fp := [it, a]) (n := i) (P := fun _ _ => True) (St := fun j g => j = i ∧ g.IsTupleIter it a i ∧ g.IsTuple a its.toArray) ⟨fun j g ⟨_, ⟨o, ho, _⟩, _⟩ => ⟨o, ho⟩, fun j g g' ⟨ej, h1, h2⟩ k => ⟨ej, h1.at fun o q => k it (by simp) o q, h2.at fun o q => k a (by simp) o q⟩,
      fun j s Q E hj ⟨ej, _⟩ => absurd ej (Nat.ne_of_lt hj), fun s Q E ⟨_, h1, h2⟩ k => wpAny_nextOf_tuple_end (show X.A.in1.handled = _ from I.ok.hd hc) h1 h2 (by simp; omega) k⟩ he ⟨rfl, hit, p⟩ fun g' eb => ⟨rfl, I.turned (t' := s.toks) (fun b o hb q => eb b o hb q) f0 f1 f3 f4 f5⟩
  self := fun A i s Q E st h => let ⟨⟨_, he⟩, _⟩ := st; wpAny_pyIter_enum he h
def iEnumU (K : PySem.W.Frag) (ta : TA) : TI := fun σ H R => ta σ H fun vs H1 => ∃ a xs, vs = [.ref a] ∧ ((SqL K H1 a xs ∧ R (Ite K a) H1) ∨ (SqT K H1 a xs ∧ R (Itet K a) H1))
theorem pi_enumU {X : Cx} {e : Expr} {ta : TA} {p pos tpos : Pos} {elts : List Expr} {kk : Nat} (hg : Gl X "enumerate") (hm : X.mg "enumerate" = none) (ha : PA X [e] ta) (hs : starEach [e] X.env = [(false, eval e X.env)] := by rfl) :
    PI X (.Tuple elts kk tpos) (.Call (.Name "enumerate" p) [e] [] pos) (iEnumU X.K ta) := ⟨fun pins s σ H R I h => by
  refine Call_ (ld_blt I hg hm boot_enumerate (PyProof.Rows.callWith_type1 (thn (ha.run pos pins s σ H _ I h) fun us s1 ⟨vs, H1, I1, r1, a, xs, ex, q⟩ => ?_) hs rfl))
  subst ex
  cases r1 with
  | cons r rr =>
    cases rr
    cases r
    have fpo : ∀ b ∈ [s1.heap.objs.size + 1, s1.heap.objs.size], s1.heap.objs.size ≤ b := fun b hb => by
      rcases (show b = s1.heap.objs.size + 1 ∨ b = s1.heap.objs.size by simpa using hb) with z | z <;> (rw [z]; omega)
    rcases q with ⟨hq, q⟩ | ⟨hq, q⟩
    · obtain ⟨its, rv, p', hz⟩ := I1.list hq
      refine enum_call1 (begins_list a its.toArray) p'.isList fun g' he hit hk => wpAny_pyIter_enum he ?_
      exact ⟨s1.heap.objs.size + 1, [s1.heap.objs.size + 1, s1.heap.objs.size], _, _, H1, rfl, I1.kept (t' := s1.toks) hk, turn_enum a (s1.heap.objs.size + 1) s1.heap.objs.size, ⟨⟨.none, he⟩, ⟨_, hit, rfl, rfl⟩, Nat.succ_ne_self _⟩, fun b hb => I1.fpOk (fpo b hb) (I1.hok.fresh (fpo b hb)), q⟩
    · obtain ⟨its, rv, p', hz⟩ := I1.tuple hq
      refine enum_call1 (begins_tuple a its.toArray) p' fun g' he hit hk => wpAny_pyIter_enum he ?_
      exact ⟨s1.heap.objs.size + 1, [s1.heap.objs.size + 1, s1.heap.objs.size], _, _, H1, rfl, I1.kept (t' := s1.toks) hk, turn_enumT a (s1.heap.objs.size + 1) s1.heap.objs.size, ⟨⟨.none, he⟩, ⟨_, hit, rfl, rfl⟩, Nat.succ_ne_self _⟩, fun b hb => I1.fpOk (fpo b hb) (I1.hok.fresh (fpo b hb)), q⟩⟩
/-- the items, numbered -/
def enumL (xs : List D) : List D := xs.mapIdx fun i d => .tup [.int (i : Int), d]
def enOf (R : List D → Prop) : D → Prop
  | .lst xs => R (enumL xs)
  | .tup xs => R (enumL xs)
  | _ => False
section
variable {K : PySem.W.Frag} {B fp : List Addr} {F F1 H H1 : Hp}
theorem enumL_len {xs : List D} : (enumL xs).length = xs.length := by unfold enumL; rw [List.length_mapIdx]
theorem enumL_get {xs : List D} {i : Nat} {d : D} (h : xs[i]? = some d) : (enumL xs)[i]? = some (.tup [.int (i : Int), d]) := by unfold enumL; rw [List.getElem?_mapIdx, h]; rfl
theorem itD_enL {a : Addr} {vs : List V} {xs : List D} (hF : ∀ a ∈ fp, F1 a = none) (w : WF B F1 H1) (h : F1 a = some (.lst vs)) (r : RL K F1 vs xs) : ItD K B (prot B fp H1) F1 (Ite K a) (enumL xs) := by
  intro i F H w' sz sf
  obtain ⟨x, ex, er⟩ := protF hF w h
  have hs : SqL K H a vs := .inl (rd_of_er (sz a x ex) er)
  have rl := r.mono sf
  rw [enumL_len]
  refine ⟨fun hi => ?_, fun hi => ⟨vs, hs, by rw [r.length]; exact hi⟩⟩
  have hi' : i < vs.length := by rw [r.length]; exact hi
  refine ⟨⟨vs, vs[i], hs, by simp [hi']⟩, fun y H' ⟨T, x, ey, eT, eH, hy⟩ => ?_⟩
  subst ey
  subst eH
  obtain ⟨d, ed, rd⟩ := rl.getV (hy vs hs)
  have s := Step.laidF (A := []) w' eT (o := .tup [.int (i : Nat), x]) rfl
  exact ⟨_, _, enumL_get ed, s, .tup upd_same (.cons (.int _) (.cons (rd.mono s.fs) .nil))⟩
theorem itD_enT {a : Addr} {vs : List V} {xs : List D} (hF : ∀ a ∈ fp, F1 a = none) (w : WF B F1 H1) (h : F1 a = some (.tup vs)) (r : RL K F1 vs xs) : ItD K B (prot B fp H1) F1 (Itet K a) (enumL xs) := by
  intro i F H w' sz sf
  obtain ⟨x, ex, er⟩ := protF hF w h
  have hs : SqT K H a vs := .inl (rd_of_er (sz a x ex) er)
  have rl := r.mono sf
  rw [enumL_len]
  refine ⟨fun hi => ?_, fun hi => ⟨vs, hs, by rw [r.length]; exact hi⟩⟩
  have hi' : i < vs.length := by rw [r.length]; exact hi
  refine ⟨⟨vs, vs[i], hs, by simp [hi']⟩, fun y H' ⟨T, x, ey, eT, eH, hy⟩ => ?_⟩
  subst ey
  subst eH
  obtain ⟨d, ed, rd⟩ := rl.getV (hy vs hs)
  have s := Step.laidF (A := []) w' eT (o := .tup [.int (i : Nat), x]) rfl
  exact ⟨_, _, enumL_get ed, s, .tup upd_same (.cons (.int _) (.cons (rd.mono s.fs) .nil))⟩
end
theorem di_enum {X : Cx} {e : Expr} {f : FE} {p pos tpos : Pos} {elts : List Expr} {kk : Nat} (hz : X.mg "enumerate" = none) (h : DE X B e (.own 0) f) (hg : Gl X "enumerate" := by rfl) (hs : starEach [e] X.env = [(false, eval e X.env)] := by rfl) (hs' : starEach [e] X.env = (false, eval e X.env) :: starEach [] X.env := by rfl) :
    DI X B (.Tuple elts kk tpos) (.Call (.Name "enumerate" p) [e] [] pos) (fun ρ R => f ρ (enOf R)) :=
  PI.imp (pi_enumU hg hz (da_cons h da_nil hs') hs) fun σ H R ⟨F, ρ, fp, Rx, S, hf, k⟩ => ⟨F, ρ, fp, fun ds => ∃ d, ds = [d] ∧ enOf Rx d, S, by
    show f ρ fun x => ∃ d, [x] = [d] ∧ enOf Rx d
    have : (fun x => ∃ d, [x] = [d] ∧ enOf Rx d) = enOf Rx := by
      funext x
      exact propext ⟨fun ⟨d, e, h⟩ => by cases e; exact h, fun h => ⟨x, rfl, h⟩⟩
    rw [this]; exact hf, fun F1 H1 vs ds f1 s1 hv o1 n1 ⟨d, ed, hR⟩ => by
    subst ed
    obtain ⟨v, rfl, h1⟩ := hv.one
    have h1 : GK.R X.K F1 v d := (show Own X.K F1 H1 0 v d f1 from h1).1
    cases d <;> try exact (show False from hR).elim
    · obtain ⟨a, vs, rfl, ht, r⟩ := h1.tupI
      exact ⟨a, vs, rfl, .inr ⟨tup_sub s1.wf ht, k _ F1 H1 _ s1 (itD_enT (outF (S.step s1 fun a h => by cases h)) s1.wf ht r) hR⟩⟩
    · obtain ⟨a, vs, rfl, ht, r⟩ := h1.lstI
      exact ⟨a, vs, rfl, .inl ⟨lst_sub s1.wf ht, k _ F1 H1 _ s1 (itD_enL (outF (S.step s1 fun a h => by cases h)) s1.wf ht r) hR⟩⟩⟩
end GK

namespace GK
open PySem PySem.Spec PyProof.Rows L2

/-! ### nested targets; tuples of what is owned; a dict of one pair -/
def tg2 (t u : D → Env → Option Env) : D → Env → Option Env := fun d ρ => match d with
  | .tup [x, y] => (t x ρ).bind (u y)
  | _ => none
section
variable {X : Cx} {pin : Nat} {pos : Pos}
theorem dg_tup2 {ea eb : Expr} {k : Nat} {t u : D → Env → Option Env} (hc : X.calm = true) (ha : DG X pin ea t) (hb : DG X pin eb u) (hs : (assignEach [ea, eb] X.env).map (·.2) = assign ea X.env :: (assignEach [eb] X.env).map (·.2) := by rfl) (hs2 : (assignEach [eb] X.env).map (·.2) = assign eb X.env :: (assignEach [] X.env).map (·.2) := by rfl)
    (hn : (assignEach [ea, eb] X.env).length = 2 := by rfl) (hst : (assignEach [ea, eb] X.env).findIdx? (·.1) = none := by rfl) : DG X pin (.Tuple [ea, eb] k pos) (tg2 t u) := by
  obtain ⟨ga, pa, ka⟩ := ha.ok
  obtain ⟨gb, pb, kb⟩ := hb.ok
  refine ⟨_, pg_tup hc (pgs_cons pa (pgs_cons pb pgs_nil hs2) hs) hn hst, fun B Pn Z0 F0 F H σ ρ ρ' fp v d hpl S r e Q k => ?_⟩
  unfold tg2 at e
  split at e
  · rename_i x y
    obtain ⟨ρ1, e1, e2⟩ := Option.bind_eq_some_iff.mp e
    obtain ⟨a, vs, rfl, ht, rl⟩ := r.tupI
    cases rl with
    | cons r1 rl =>
      cases rl with
      | cons r2 rl =>
        cases rl
        exact ⟨a, _, rfl, tup_sub S.wf ht, rfl, _, _, rfl, ka B Pn Z0 F0 F H σ ρ ρ1 fp _ _ hpl S r1 e1 _ fun σ1 fp1 S1 => ⟨_, _, rfl, kb B Pn Z0 F0 F H σ1 ρ1 ρ' fp1 _ _ hpl S1 r2 e2 _ fun σ2 fp2 S2 => ⟨rfl, k σ2 fp2 S2⟩⟩⟩
  · cases e
end
section
variable {K : PySem.W.Frag} {B A fp : List Addr} {Pn : List V} {Z0 F0 F F' H H' : Hp} {σ : L2.St} {ρ : Env} {m : Mode} {n : Nat}
theorem StOk.setS {v : V} {d : D} {f : List Addr} {i : Nat} (S : StOk K B Pn Z0 F0 F H σ ρ fp) (h : Own K F H n v d f) (ap : Apart B Z0 F fp f) (hi : i < ρ.length) (hp : Pn.length ≤ i) :
    ∃ fp', StOk K B Pn Z0 F0 F H (σ.set i (some v)) (ρ.set i (some (n, d))) fp' ∧ ∀ a ∈ fp', a ∈ fp ∨ a ∈ f := by
  obtain ⟨fp', o', nd', sub⟩ := OwnE.set (i := i) h S.own (List.nodup_append.mpr ⟨S.nd, ap.2, fun a ha b hb e => (ap.1 b hb).2.2.2 (e ▸ ha)⟩) hi
  refine ⟨fp', ⟨S.wf, o', nd', fun a ha => ?_, S.z, S.zB, S.f, S.fr, fun j w e => ?_⟩, sub⟩
  · rcases sub a ha with z | z
    · exact S.out a z
    · exact ⟨(ap.1 a z).1, (ap.1 a z).2.1, (ap.1 a z).2.2.1⟩
  · have := (List.getElem?_eq_some_iff.mp e).1
    rw [List.getElem?_set_ne (by omega)]
    exact S.pn j w e
end
section
variable {X : Cx} {pin n i j : Nat} {pos p1 p2 : Pos} {x y : Str} {mr : Mode}
theorem mTake_inv {i n : Nat} {ρ : Env} {R : D → Env → Prop} (h : mTake i n ρ R) : ∃ d, slot ρ i = some (n, d) ∧ R d (ρ.set i none) := by
  unfold mTake at h
  split at h
  · rename_i k d e
    obtain ⟨rfl, h⟩ := h
    exact ⟨d, e, h⟩
  · exact h.elim
/-- (x, y), both taken -/
theorem dm_tupTT (i j n : Nat) {k : Nat} (hN : NameOk X i x := by exact ⟨rfl, by first | exact Or.inl rfl | exact Or.inr (Or.inl rfl) | exact Or.inr (Or.inr rfl), by decide, by decide⟩) (hM : NameOk X j y := by exact ⟨rfl, by first | exact Or.inl rfl | exact Or.inr (Or.inl rfl) | exact Or.inr (Or.inr rfl), by decide, by decide⟩)
    (hs : starEach [.Name x p1, .Name y p2] X.env = (false, eval (.Name x p1) X.env) :: starEach [.Name y p2] X.env := by rfl) (hs2 : starEach [.Name y p2] X.env = (false, eval (.Name y p2) X.env) :: starEach [] X.env := by rfl) :
    DM X B (.Tuple [.Name x p1, .Name y p2] k pos) pin (.own (n + 1)) (fun ρ R => mTake i n ρ fun d ρ1 => mTake j n ρ1 fun e ρ2 => R (.tup [d, e]) ρ2) :=
  PE.imp (pe_tup (pa_cons (pe_var hN.1 hN.2 hN.3 hN.4) (pa_cons (pe_var hM.1 hM.2 hM.3 hM.4) pa_nil hs2) hs)) fun σ H Q ⟨Pn, Z0, F0, F, ρ, fp, R, hpl, S, hf, k⟩ => by
    obtain ⟨d, q, hf⟩ := mTake_inv (show mTake i n ρ _ from hf)
    obtain ⟨v, f, fp1, e1, o1, S1, ap1, sub1⟩ := S.take q
    obtain ⟨e, q2, hR⟩ := mTake_inv (show mTake j n (ρ.set i none) _ from hf)
    obtain ⟨u, g, fp2, e2, o2, S2, ap2, sub2⟩ := S1.take q2
    refine ⟨v, e1, u, e2, by show 2 ≤ sizeLine; decide, fun p hp => ?_⟩
    have st := Step.laidF (A := []) S2.wf hp (o := .tup [v, u]) rfl
    have S3 := S2.step st fun a h => (by cases h)
    have np : ∀ {v' d' f'}, Own X.K F H n v' d' f' → ∀ a ∈ f', a ≠ p := fun o a ha z => by
      obtain ⟨ob, eo, _⟩ := o.there a ha
      rw [z, hp] at eo; cases eo
    refine k _ _ _ fp2 (.ref p) (.tup [d, e]) (f ++ g) S3 ⟨p, [v, u], rfl, upd_same, f, g, rfl, Own.mono st.fs (fun a ha o eo => by rw [upd_ne (np o1 a ha)]; exact eo) o1, g, [], (List.append_nil g).symm, Own.mono st.fs (fun a ha o eo => by rw [upd_ne (np o2 a ha)]; exact eo) o2, rfl⟩ ⟨fun a ha => ?_, ?_⟩ hR
    · rcases List.mem_append.mp ha with z | z
      · obtain ⟨r1, r2, r3, r4⟩ := ap1.1 a z
        refine ⟨?_, r2, r3, fun z2 => r4 (sub2 a (List.mem_append_left _ z2))⟩
        rw [upd_ne (np o1 a z)]; exact r1
      · obtain ⟨r1, r2, r3, r4⟩ := ap2.1 a z
        refine ⟨?_, r2, r3, r4⟩
        rw [upd_ne (np o2 a z)]; exact r1
    · exact List.nodup_append.mpr ⟨ap1.2, ap2.2, fun a ha b hb z => (ap1.1 a ha).2.2.2 (sub2 a (List.mem_append_right _ (z ▸ hb)))⟩
/-- (x, None), x taken -/
theorem dm_tupTN (i n : Nat) {k jj : Nat} (hN : NameOk X i x := by exact ⟨rfl, by first | exact Or.inl rfl | exact Or.inr (Or.inl rfl) | exact Or.inr (Or.inr rfl), by decide, by decide⟩)
    (hs : starEach [.Name x p1, .Constant .none jj p2] X.env = (false, eval (.Name x p1) X.env) :: starEach [.Constant .none jj p2] X.env := by rfl) (hs2 : starEach [.Constant .none jj p2] X.env = (false, eval (.Constant .none jj p2) X.env) :: starEach [] X.env := by rfl) :
    DM X B (.Tuple [.Name x p1, .Constant .none jj p2] k pos) pin (.own (n + 1)) (fun ρ R => mTake i n ρ fun d ρ1 => R (.tup [d, .non]) ρ1) :=
  PE.imp (pe_tup (pa_cons (pe_var hN.1 hN.2 hN.3 hN.4) (pa_cons pe_non pa_nil hs2) hs)) fun σ H Q ⟨Pn, Z0, F0, F, ρ, fp, R, hpl, S, hf, k⟩ => by
    obtain ⟨d, q, hR⟩ := mTake_inv (show mTake i n ρ _ from hf)
    obtain ⟨v, f, fp1, e1, o1, S1, ap1, sub1⟩ := S.take q
    refine ⟨v, e1, by show 2 ≤ sizeLine; decide, fun p hp => ?_⟩
    have st := Step.laidF (A := []) S1.wf hp (o := .tup [v, .non]) rfl
    have S3 := S1.step st fun a h => (by cases h)
    have np : ∀ a ∈ f, a ≠ p := fun a ha z => by
      obtain ⟨ob, eo, _⟩ := o1.there a ha
      rw [z, hp] at eo; cases eo
    have on : Own X.K (upd F p (.tup [v, .non])) (upd H p (.tup [v, .non])) n .non .non [] := by cases n <;> exact ⟨.non, rfl⟩
    refine k _ _ _ fp1 (.ref p) (.tup [d, .non]) f S3 ⟨p, [v, .non], rfl, upd_same, f, [], (List.append_nil f).symm, Own.mono st.fs (fun a ha o eo => by rw [upd_ne (np a ha)]; exact eo) o1, [], [], rfl, on, rfl⟩ ⟨fun a ha => ?_, ap1.2⟩ hR
    obtain ⟨r1, r2, r3, r4⟩ := ap1.1 a ha
    refine ⟨?_, r2, r3, r4⟩
    rw [upd_ne (np a ha)]; exact r1
/-- x, y = e, what e gives is owned -/
theorem ds_asgO {e : Expr} {f : FM} {k : Nat} (i j n : Nat) (hc : X.calm = true) (he : DM X B e pin (.own (n + 1)) f) (hN : X.N.Nodup) (hi : X.N[i]? = some x) (hx : Loc X.env.scope x) (hp : pin ≤ i) (hj : X.N[j]? = some y) (hy : Loc X.env.scope y) (hp2 : pin ≤ j)
    (hs : swapsWithSole [.Tuple [.Name x p1, .Name y p2] k pos] e pos'.line X.env = pure false := by rfl) (hw : swappedStores [.Tuple [.Name x p1, .Name y p2] k pos] e X.env = pure none := by rfl)
    (h1 : (assignEach [.Tuple [.Name x p1, .Name y p2] k pos] X.env).map (·.2) = [assign (.Tuple [.Name x p1, .Name y p2] k pos) X.env] := by rfl)
    (hf1 : X.fn x = true ∨ X.env.scope.names.lookup x = some .local := by first | exact .inl rfl | exact .inr rfl | assumption) (hf2 : X.fn y = true ∨ X.env.scope.names.lookup y = some .local := by first | exact .inl rfl | exact .inr rfl | assumption)
    (hs1 : (assignEach [.Name x p1, .Name y p2] X.env).map (·.2) = assign (.Name x p1) X.env :: (assignEach [.Name y p2] X.env).map (·.2) := by rfl) (hs2 : (assignEach [.Name y p2] X.env).map (·.2) = assign (.Name y p2) X.env :: (assignEach [] X.env).map (·.2) := by rfl)
    (hn : (assignEach [.Name x p1, .Name y p2] X.env).length = 2 := by rfl) (hst : (assignEach [.Name x p1, .Name y p2] X.env).findIdx? (·.1) = none := by rfl) :
    DS X B (.Assign [.Tuple [.Name x p1, .Name y p2] k pos] e pos') pin mr (fun E ρ => f ρ fun d ρ' => ∃ a b, d = .tup [a, b] ∧ i < ρ'.length ∧ j < ρ'.length ∧ E.nx ((ρ'.set i (some (n, a))).set j (some (n, b)))) :=
  PS.imp (ps_asg he (pg_tup hc (pgs_cons (pg_name hN hi hx hf1) (pgs_cons (pg_name hN hj hy hf2) pgs_nil hs2) hs1) hn hst) hs hw h1) fun Dn σ H ⟨Pn, Z0, F0, F, ρ, fp, E, hpl, S, hf, L⟩ => by
    refine ⟨Pn, Z0, F0, F, ρ, fp, _, hpl, S, hf, fun F' H' ρ' fp' v d f' S' hv ap ⟨a, b, ed, li, lj, hR⟩ => ?_⟩
    subst ed
    obtain ⟨p, vs, rfl, hp', ow⟩ := (show Own X.K F' H' (n + 1) v (.tup [a, b]) f' from hv)
    match vs, ow with
    | [v1, v2], ⟨f1, f2, ef, o1, f3, f4, ef2, o2, ef3⟩ =>
      have ef3 : f4 = [] := ef3
      subst ef3
      rw [List.append_nil] at ef2
      subst ef2
      subst ef
      obtain ⟨nd1, nd2, nd3⟩ := List.nodup_append.mp ap.2
      obtain ⟨fp1, S1, sub1⟩ := S'.setS o1 (i := i) ⟨fun a ha => ap.1 a (List.mem_append_left _ ha), nd1⟩ li (by omega)
      obtain ⟨fp2, S2, sub2⟩ := S1.setS o2 (i := j) ⟨fun a ha => by
        obtain ⟨r1, r2, r3, r4⟩ := ap.1 a (List.mem_append_right _ ha)
        exact ⟨r1, r2, r3, fun z => (sub1 a z).elim r4 fun z => nd3 a z a ha rfl⟩, nd2⟩ (by rw [List.length_set]; exact lj) (by omega)
      exact ⟨p, [v1, v2], rfl, tup_sub S'.wf hp', rfl, v1, [v2], rfl, v2, [], rfl, rfl, L.nx F' H' _ _ fp2 S2 hR⟩
/-- {k: v} -/
theorem de_disp1 {ek ev : Expr} {f f' : FE} (hk : DE X B ek (.own 0) f) (hv : DE X B ev (.own 0) f') : DE X B (.Dict [some ek] [ev] pos) (.own 1) (fun ρ R => f ρ fun kd => f' ρ fun vd => ∃ k, keyOf kd = some k ∧ R (.dK [(k, vd)])) :=
  PE.imp (pe_disp (pps_cons hk hv pps_nil) rfl rfl (by simp) (by simp)) fun σ H Q ⟨F, ρ, fp, R, S, hf, k⟩ p hp => by
    have s0 := Step.laid (A := []) S.wf hp (o := .dK []) rfl
    have S0 := S.step s0 fun a h => (by cases h)
    have pB := S.wf.notB hp
    have pF := F_none S.wf hp
    refine ⟨F, ρ, fp, _, S0, hf, fun F1 H1 kv kd f1 s1 hkv o1 n1 hg => ⟨F1, ρ, fp, _, S0.step s1 (fun a h => by cases h), hg, fun F2 H2 vv vd f2 s2 hvv o2 n2 ⟨key, ek, hR⟩ => ?_⟩⟩
    have e1 := s1.same p _ pB upd_same
    have e2 := s2.same p _ pB e1
    have pF1 := s1.out upd_same trivial pB pF (fun z => by cases z)
    have pF2 := s2.out e1 trivial pB pF1 (fun z => by cases z)
    have hkv : GK.R X.K F1 kv kd := (show Own X.K F1 H1 0 kv kd f1 from hkv).1
    have hvv : GK.R X.K F2 vv vd := (show Own X.K F2 H2 0 vv vd f2 from hvv).1
    refine ⟨e2, [(key, vv)], ?_, by simp, ?_⟩
    · rw [keyOf_R ek hkv]; rfl
    · have st := ((s0.trans s1 fun a h => by cases h).trans s2 fun a h => by cases h).mutNew hp pF2 pB (o := .dK (mergeK [] [(key, vv)])) rfl
      refine k F2 _ (.ref p) (.dK [(key, vd)]) [p] st ⟨p, [(key, vv)], [], rfl, upd_same, rfl, rfl, OwnL.zero (.cons hvv .nil)⟩ (fun a ha => ?_) (by simp) hR
      rw [List.mem_singleton.mp ha]
      exact ⟨.inr hp, pF2, pB⟩
end
end GK

namespace GK
open PySem PySem.Spec PyProof.Rows L2

/-! ### xs[::-1]; list of a list or a tuple; is True, is False -/
section
variable {X : Cx} {e : Expr} {p p1 p2 p3 pos : Pos} {m m1 : Mode} {f : FE} {k : Nat}
theorem de_revL (he : DE X B e m1 f) (h1 : m1.flat1 = true := by rfl) : DE X B (.Subscript e (.Slice none none (some (.UnaryOp .USub (.Constant (.int 1) k p1) p2)) p3) pos) (.own 1) (fun ρ R => f ρ (xsOf fun ds => R (.lst ds.reverse))) :=
  PE.imp (pe_revL he) fun σ H Q ⟨F, ρ, fp, R, S, hf, k⟩ => by
    refine ⟨F, ρ, fp, _, S, hf, fun F1 H1 v d f1 s1 hv o1 n1 hd => ?_⟩
    cases d <;> try exact (show False from hd).elim
    obtain ⟨a, vs, rfl, ha, r⟩ := hv.lstRL h1 s1.wf
    exact ⟨a, vs, rfl, SqL.of ha, fun q hq => (k.after s1 (A1 := []) fun a h => by cases h).newLst0 s1.wf r.reverse hd hq⟩
def gListU : List D → (D → Prop) → Prop
  | [.lst ds], R => R (.lst ds)
  | [.tup ds], R => R (.lst ds)
  | _, _ => False
theorem opN_listU {K : PySem.W.Frag} : OpN K (fun xs H Q => ∃ p ys, xs = [.ref p] ∧ (SqL K H p ys ∨ SqT K H p ys) ∧ ∀ l, H l = none → Q (.ref l) (upd H l (.lst ys))) [.own 0] (.own 1) gListU := by
  intro B F H vs ds fp R Q w hv hf hg k
  unfold gListU at hg
  split at hg
  · obtain ⟨v, rfl, h⟩ := hv.one
    obtain ⟨a, xs, rfl, ha, r⟩ := (show GK.R K F v _ from h.1).lstI
    exact ⟨a, xs, rfl, .inl (sqL_rd (w.sub _ _ ha)), fun l hl => k.newLst0 w r hg hl⟩
  · obtain ⟨v, rfl, h⟩ := hv.one
    obtain ⟨a, xs, rfl, ha, r⟩ := (show GK.R K F v _ from h.1).tupI
    exact ⟨a, xs, rfl, .inr (sqT_rd (w.sub _ _ ha)), fun l hl => k.newLst0 w r hg hl⟩
  · exact hg.elim
theorem de_listU (hz : X.mg "list" = none) (ha : DE X B e (.own 0) f) (hg : Gl X "list" := by rfl) (he : starEach [e] X.env = (false, eval e X.env) :: starEach [] X.env := by rfl) (hpl : (backTo pos (starEach [] X.env)).any (·.1) = false := by rfl) :
    DE X B (.Call (.Name "list" p) [e] [] pos) (.own 1) (fArgs gListU (fCons f fNil)) := de_Ty call_list_of opN_listU hg hz (by decide +kernel) (da_cons ha da_nil he) (by decide) (by decide) he hpl
end
end GK
namespace GK
open PySem PySem.Spec PyProof.Rows L2
theorem de_isiK {X : Cx} {e e2 : Expr} {p pos : Pos} {m m1 m2 : Mode} {f f' : FE} (K : PySem.W.Frag) (hK : X.K = K) (hz : X.mg "isinstance" = none) (ha : DE X B e m1 f) (hb : DE X B e2 m2 f') (hm : m1.look = true := by rfl) (hg : Gl X "isinstance" := by rfl) (he : starEach [e, e2] X.env = (false, eval e X.env) :: starEach [e2] X.env := by rfl) (he2 : starEach [e2] X.env = (false, eval e2 X.env) :: starEach [] X.env := by rfl) (hpl : (backTo pos (starEach [e2] X.env)).any (·.1) = false := by rfl) :
    DE X B (.Call (.Name "isinstance" p) [e, e2] [] pos) m (fArgs (gIsi K) (fCons f (fCons f' fNil))) := by
  subst hK
  exact de_isi hz ha hb hm hg he he2 hpl
end GK

namespace GK
open PySem PySem.Spec PyProof.Rows L2

/-! ### small steps through data -/
theorem szL : sizeLine = 16777216 := by decide
theorem draw_go {B : List Addr} {b : Addr} {size : Int} {R : D → Prop} (hb : B.head? = some b) (h0 : 0 < size) (h1 : size < 2 ^ 64) (h : ∀ r : Int, 0 ≤ r → r < size → R (.int r)) : wDraw B [.raw (.ref b), .int size] R := by
  refine ⟨b, size, hb, rfl, h0, ?_, h⟩
  have : size.natAbs.log2 < 64 := (Nat.log2_lt (by omega)).mpr (by omega)
  omega
abbrev natD (i : Nat) : D := .int (i : Int)
theorem ixN_nat {n k : Nat} (h : k < n) : ixN n (k : Int) = some k := by
  unfold ixN
  rw [if_pos (by omega), if_pos (by omega)]; rfl
theorem ixN_int {n : Nat} {i : Int} (h0 : 0 ≤ i) (h1 : i < n) : ixN n i = some i.toNat := by
  unfold ixN
  rw [if_pos h0, if_pos h1]
theorem gIx_tl {xs : List D} {k : Nat} {d : D} {R : D → Prop} (h : xs[k]? = some d) (q : R d) : gIx (.tup xs) (.int (k : Int)) R := by
  refine ⟨d, ?_, q⟩
  have hk := (List.getElem?_eq_some_iff.mp h).1
  unfold atI
  rw [ixN_nat hk]; exact h
/-- a list or a tuple of these -/
def isSeq (d : D) (xs : List D) : Prop := d = .lst xs ∨ d = .tup xs
theorem gIx_seq {e : D} {xs : List D} {k : Nat} {d : D} {R : D → Prop} (s : isSeq e xs) (h : xs[k]? = some d) (q : R d) : gIx e (.int (k : Int)) R := by
  rcases s with rfl | rfl
  · exact gIx_nat h q
  · exact gIx_tl h q
theorem gIx_last {ds : List D} {x : D} {R : D → Prop} (q : R x) : gIx (.lst (ds ++ [x])) (.int (-1)) R := by
  refine ⟨x, ?_, q⟩
  unfold atI ixN
  rw [if_neg (by decide), if_pos (by rw [List.length_append, List.length_singleton]; omega)]
  show (ds ++ [x])[(-1 + ((ds ++ [x]).length : Int)).toNat]? = some x
  have e : (-1 + ((ds ++ [x]).length : Int)).toNat = ds.length := by rw [List.length_append, List.length_singleton]; omega
  rw [e]
  simp
theorem gIx_t2 {a b c : D} {r : List D} {R : D → Prop} : gIx (.tup (a :: b :: c :: r)) (.int 2) R = R c := by
  show (∃ d, atI (a :: b :: c :: r) 2 = some d ∧ R d) = R c
  rw [atI_2]; exact ex_some
theorem rangeD0 (n : Nat) : rangeD 0 n = (List.range n).map natD := by
  unfold rangeD
  refine List.map_congr_left fun i _ => ?_
  show D.int (0 + (i : Int)) = D.int (i : Int)
  rw [Int.zero_add]
theorem gEqA_no {n : Bool} {i : Int} {R : D → Prop} : gEqA n .non (.int i) R = R (.bl (n ^^ false)) := rfl
theorem gIsN_lst {n : Bool} {es : List D} {R : D → Prop} : gIsN n (.lst es) .non R = R (.bl n) := rfl
theorem gIsN_tup {n : Bool} {es : List D} {R : D → Prop} : gIsN n (.tup es) .non R = R (.bl n) := rfl
theorem enOf_seq {e : D} {xs : List D} {R : List D → Prop} (s : isSeq e xs) (q : R (enumL xs)) : enOf R e := by
  rcases s with rfl | rfl <;> exact q
theorem enumL_cons' {xs : List D} {k : Nat} {x : D} {r : List D} (h : xs.drop k = x :: r) : (enumL xs).drop k = .tup [natD k, x] :: (enumL xs).drop (k + 1) := by
  have hk : k < xs.length := by
    have := congrArg List.length h
    rw [List.length_drop, List.length_cons] at this
    omega
  have hx : xs[k]? = some x := by
    have := congrArg (fun l => l[0]?) h
    rw [List.getElem?_drop] at this
    simpa using this
  have hl : k < (enumL xs).length := by rw [enumL_len]; exact hk
  rw [List.drop_eq_getElem_cons hl]
  congr 1
  have e := enumL_get hx
  rw [List.getElem?_eq_getElem hl] at e
  exact Option.some.inj e
theorem dnE {x y : Nat} : decide ((x : Int) = (y : Int)) = decide (x = y) := by
  by_cases h : x = y
  · rw [decide_eq_true h, decide_eq_true (by rw [h])]
  · rw [decide_eq_false h, decide_eq_false (by omega)]
theorem dnL {x y : Nat} : decide ((x : Int) < (y : Int)) = decide (x < y) := by
  by_cases h : x < y
  · rw [decide_eq_true h, decide_eq_true (by omega)]
  · rw [decide_eq_false h, decide_eq_false (by omega)]
theorem neg_go {i : Int} {R : D → Prop} (q : R (.int (-i))) : g1I (fun i => .int (-i)) (.int i) R := q
end GK
namespace GK
open PySem PySem.Spec PyProof.Rows L2
theorem rng_go {n : Nat} {R : List D → Prop} (h : n < 2 ^ 62) (q : R ((List.range' 0 n).map natD)) : rng1 R (.int (n : Int)) := by
  refine ⟨by omega, by omega, ?_⟩
  rw [Int.toNat_natCast, rangeD0, List.range_eq_range']
  exact q
theorem rng2_go {a b : Nat} {R : List D → Prop} (h : a < 2 ^ 62) (h2 : b < 2 ^ 62) (q : R ((List.range' a (b - a)).map natD)) : rng2 R (.int (a : Int)) (.int (b : Int)) := by
  refine ⟨⟨by omega, by omega, by omega, by omega⟩, ?_⟩
  have e : rangeD (a : Int) ((b : Int) - (a : Int)).toNat = (List.range' a (b - a)).map natD := by
    rw [show ((b : Int) - (a : Int)).toNat = b - a by omega]
    unfold rangeD
    rw [List.range'_eq_map_range, List.map_map]
    refine List.map_congr_left fun i _ => ?_
    show D.int ((a : Int) + (i : Int)) = D.int ((a + i : Nat) : Int)
    rw [Int.natCast_add]
  rw [e]; exact q
end GK
namespace GK
open PySem PySem.Spec PyProof.Rows L2
theorem atP_go {ρ : Env} {i n : Nat} {p : List PSt} {d x : D} {k : Nat → D → D → Prop} (e : slot ρ i = some (n + 1 + p.length, d)) (h : subP d p = some x) (q : k n d x) : atP ρ i p k := by
  unfold atP
  rw [e]
  exact ⟨n, x, rfl, h, q⟩
theorem atLst_go {ρ : Env} {i n : Nat} {p : List PSt} {d : D} {ds : List D} {k : D → List D → Prop} (e : slot ρ i = some (n + 1 + p.length, d)) (h : subP d p = some (.lst ds)) (q : k d ds) : atLst ρ i n p k := atP_go e h ⟨rfl, q⟩
theorem sub_ix {ds : List D} {k : Nat} {d : D} (h : ds[k]? = some d) : subP (.lst ds) [.ix k] = some d := by
  show (ds[k]?).bind _ = _
  rw [h]; rfl
theorem set_ix {ds : List D} {k : Nat} {d x : D} (h : ds[k]? = some d) : setP (.lst ds) [.ix k] x = .lst (ds.set k x) := by
  unfold setP
  rw [show subD (.lst ds) (.ix k) = some d from h]
  rfl
theorem fm_const {Z : Type} {x : D} : ∀ (l : List Z), l.filterMap (fun _ => some x) = List.replicate l.length x
  | [] => rfl
  | z :: l => by rw [List.filterMap_cons, fm_const l, List.length_cons, List.replicate_succ]
end GK
namespace GK
open PySem PySem.Spec PyProof.Rows L2
theorem drawN {B : List Addr} {b : Addr} {R : D → Prop} (s : Nat) (hb : B.head? = some b) (h0 : 0 < s) (h1 : s < 2 ^ 62) (h : ∀ r : Nat, r < s → R (natD r)) : wDraw B [.raw (.ref b), .int (s : Int)] R :=
  draw_go hb (by omega) (by omega) fun r r0 r1 => by
    have := h r.toNat (by omega)
    rwa [show natD r.toNat = .int r from congrArg D.int (Int.toNat_of_nonneg r0)] at this
theorem iOf_int {R : Option Int → Prop} {i : Int} : iOf R (.int i) = R (some i) := rfl
theorem gSlL_to {ds : List D} {k : Nat} {R : D → Prop} (h : k ≤ ds.length) : gSlL (.lst ds) none (some (k : Int)) R = R (.lst (ds.take k)) := by
  show R (.lst (cutD ds none (some (k : Int)))) = _
  unfold cutD
  rw [HT.sIx_none, HT.sIx_nat, List.drop_zero, Nat.sub_zero, Nat.min_eq_left h]
theorem fm_none {Z : Type} : ∀ (l : List Z), l.filterMap (fun _ => (none : Option D)) = []
  | [] => rfl
  | z :: l => fm_none l
theorem gSum_ints {ns : List Int} {R : D → Prop} (q : R (.int ns.sum)) : gSum [.lst (ns.map D.int)] R := by
  refine ⟨ns, ?_, q⟩
  induction ns with
  | nil => rfl
  | cons n ns ih =>
    show (intsOf (ns.map D.int)).map (n :: ·) = _
    have : intsOf (ns.map D.int) = some ns := by
      clear ih q
      induction ns with
      | nil => rfl
      | cons m ms ih2 => show (intsOf (ms.map D.int)).map (m :: ·) = _; rw [ih2]; rfl
    rw [this]; rfl
theorem any_nats {x : Nat} : ∀ {ys : List Nat}, ((ys.map natD).any fun z => eqF z (natD x)) = decide (x ∈ ys)
  | [] => rfl
  | y :: ys => by
    rw [List.map_cons, List.any_cons, any_nats]
    show (((y : Int) == (x : Int)) || decide (x ∈ ys)) = decide (x ∈ y :: ys)
    by_cases h : y = x
    · subst h; simp
    · have h2 : ¬ (y : Int) = (x : Int) := fun z => h (Int.ofNat.inj z)
      have h3 : ((y : Int) == (x : Int)) = false := by simp [h2]
      rw [h3, Bool.false_or]
      by_cases m : x ∈ ys
      · rw [decide_eq_true m, decide_eq_true (List.mem_cons_of_mem _ m)]
      · rw [decide_eq_false m, decide_eq_false (fun z => (List.mem_cons.mp z).elim (fun z => h z.symm) m)]
theorem gIn_nats {x : Nat} {ys : List Nat} {R : D → Prop} (q : R (.bl (decide (x ∈ ys)))) : gIn false (natD x) (.lst (ys.map natD)) R := by
  refine ⟨_, rfl, rfl, ?_, ?_⟩
  · rw [List.all_map]
    exact List.all_eq_true.mpr fun y _ => rfl
  · rw [Bool.false_xor]
    rw [any_nats]; exact q
end GK
namespace GK
open PySem PySem.Spec PyProof.Rows L2
mutual
theorem eqv_self : ∀ d : D, PyData.eqv (toP d) (toP d) = true
  | .non => by rw [toP]; rfl
  | .bl b => by simp [toP, PyData.eqv]
  | .int i => by simp [toP, PyData.eqv]
  | .str x => by simp [toP, PyData.eqv]
  | .raw v => by rw [toP]; rfl
  | .kp d => by rw [toP]; exact eqv_self d
  | .dK v => by rw [toP]; rfl
  | .dT v => by rw [toP]; rfl
  | .obj C v => by rw [toP]; rfl
  | .tup xs => by rw [toP, PyData.eqv]; exact eqvs_self xs
  | .lst xs => by rw [toP, PyData.eqv]; exact eqvs_self xs
theorem eqvs_self : ∀ ds : List D, PyData.eqvAll (toPs ds) (toPs ds) = true
  | [] => by rw [toPs]; rfl
  | d :: ds => by rw [toPs, PyData.eqvAll, eqv_self d, eqvs_self ds]; rfl
end
theorem okDs_all {n : Nat} : ∀ {ds : List D}, (∀ d ∈ ds, okD n d = true) → okDs n ds = true
  | [], _ => rfl
  | d :: ds, h => by
    rw [okDs, h d List.mem_cons_self, okDs_all fun x hx => h x (List.mem_cons_of_mem _ hx)]; rfl
theorem eqD_self {n : Bool} {d : D} {R : D → Prop} (h : okD 60 d = true) (q : R (.bl (n ^^ true))) : gEqD n d d R := ⟨h, h, by
  unfold eqvD
  rw [eqv_self]; exact q⟩
end GK
namespace GK
theorem gListL_lst {ds : List D} {R : D → Prop} : gListL [.lst ds] R = R (.lst ds) := rfl
theorem gTupL_lst {ds : List D} {R : D → Prop} : gTupL [.lst ds] R = R (.tup ds) := rfl
theorem gListU_lst {ds : List D} {R : D → Prop} : gListU [.lst ds] R = R (.lst ds) := rfl
theorem gListU_tup {ds : List D} {R : D → Prop} : gListU [.tup ds] R = R (.lst ds) := rfl
end GK

namespace GK
open PySem PySem.Spec PyProof.Rows L2

/-! ### walking a list or a tuple; an item of a new tuple of what is owned; xs.index(x) -/
def iSeqU (K : PySem.W.Frag) (tl : TE) : TI := fun σ H R => tl σ H fun x H1 => ∃ a xs, x = .ref a ∧ ((SqL K H1 a xs ∧ R (Itl K a) H1) ∨ (SqT K H1 a xs ∧ R (Itt K a) H1))
theorem pi_seqU {X : Cx} {tg l : Expr} {tl : TE} (hl : PE X l tl) : PI X tg l (iSeqU X.K tl) := ⟨fun pins s σ H R I h => by
  refine thn (hl.run pins s σ H _ I h) fun v s1 ⟨x, H1, I1, r1, a, xs, ex, q⟩ => ?_
  subst ex
  cases r1
  have fpo : ∀ b ∈ [s1.heap.objs.size], s1.heap.objs.size ≤ b := fun b hb => Nat.le_of_eq (List.mem_singleton.mp hb).symm
  rcases q with ⟨hq, q⟩ | ⟨hq, q⟩
  · obtain ⟨its, rv, p, hz⟩ := I1.list hq
    exact wpAny_pyIter_list p.isList ⟨s1.heap.objs.size, [s1.heap.objs.size], _, _, H1, rfl, I1.kept (t' := s1.toks) (fun b o e => Heap.get?_push_of_some _ e), turn_list a _, ⟨_, Heap.get?_push_size _ rfl, rfl, rfl⟩, fun b hb => I1.fpOk (fpo b hb) (I1.hok.fresh (fpo b hb)), q⟩
  · obtain ⟨its, rv, p, hz⟩ := I1.tuple hq
    exact wpAny_pyIter_tuple (show s1.heap.IsTuple a its.toArray from p) ⟨s1.heap.objs.size, [s1.heap.objs.size], _, _, H1, rfl, I1.kept (t' := s1.toks) (fun b o e => Heap.get?_push_of_some _ e), turn_tuple a _, ⟨_, Heap.get?_push_size _ rfl, rfl, rfl⟩, fun b hb => I1.fpOk (fpo b hb) (I1.hok.fresh (fpo b hb)), q⟩⟩
theorem di_seqU {X : Cx} {tg e : Expr} {f : FE} (h : DE X B e (.own 0) f) : DI X B tg e (fun ρ R => f ρ (seqOf R)) := PI.imp (pi_seqU h) fun σ H R ⟨F, ρ, fp, Rx, S, hf, k⟩ => ⟨F, ρ, fp, _, S, hf, fun F1 H1 v d f1 s1 hv o1 n1 hR => by
  have S1 := outF (S.step s1 fun a h => by cases h)
  have hv : GK.R X.K F1 v d := (show Own X.K F1 H1 0 v d f1 from hv).1
  cases d <;> try exact (show False from hR).elim
  · obtain ⟨a, vs, rfl, h1, r⟩ := hv.tupI
    exact ⟨a, vs, rfl, .inr ⟨tup_sub s1.wf h1, k _ F1 H1 _ s1 (itD_tup S1 s1.wf h1 r) hR⟩⟩
  · obtain ⟨a, vs, rfl, h1, r⟩ := hv.lstI
    exact ⟨a, vs, rfl, .inl ⟨lst_sub s1.wf h1, k _ F1 H1 _ s1 (itD_list S1 s1.wf h1 r) hR⟩⟩⟩
theorem seqOf_seq {e : D} {xs : List D} {R : List D → Prop} (s : isSeq e xs) (q : R xs) : seqOf R e := by
  rcases s with rfl | rfl <;> exact q
/-- an item of a tuple of what is owned -/
theorem OwnL.pick {P : V → D → List Addr → Prop} : ∀ {vs : List V} {ds : List D} {f : List Addr} {i : Nat} {d : D}, OwnL P vs ds f → f.Nodup → ds[i]? = some d → ∃ v g, vs[i]? = some v ∧ P v d g ∧ g.Nodup ∧ ∀ a ∈ g, a ∈ f
  | [], [], _, i, d, _, _, e => by simp at e
  | v :: vs, x :: ds, f, 0, d, ⟨f1, f2, ef, h, t⟩, nd, e => by
    have e : x = d := Option.some.inj e
    subst e
    subst ef
    exact ⟨v, f1, rfl, h, (List.nodup_append.mp nd).1, fun a ha => List.mem_append_left _ ha⟩
  | v :: vs, x :: ds, f, i + 1, d, ⟨f1, f2, ef, h, t⟩, nd, e => by
    subst ef
    obtain ⟨w, g, h1, h2, h3, h4⟩ := OwnL.pick (i := i) t (List.nodup_append.mp nd).2.1 e
    exact ⟨w, g, h1, h2, h3, fun a ha => List.mem_append_right _ (h4 a ha)⟩
theorem op2_ixO {K : PySem.W.Frag} {m2 : Mode} {n : Nat} : Op2 K (rIx K) (.own (n + 1)) m2 (.own n) gIxT := by
  intro B F H x y d e fp R Q w ⟨f1, f2, ef, h1, h2⟩ hf hg k
  subst ef
  cases d <;> cases e <;> try exact (show False from hg).elim
  obtain ⟨c, hc, hR⟩ := hg
  obtain ⟨rfl, _⟩ := h2.int
  obtain ⟨a, vs, rfl, ha, ol⟩ := (show Own K F H (n + 1) x (.tup _) f1 from h1)
  obtain ⟨j, e1, e2⟩ := atI_same ol.len hc
  obtain ⟨v, g, q1, q2, q3, q4⟩ := ol.pick (List.nodup_append.mp hf.2).1 e1
  refine .inr (.inl ⟨a, vs, _, v, rfl, rfl, tup_sub w ha, e2 v q1, ?_⟩)
  exact k F H v c g (Step.refl w) q2 (fun b hb => ⟨.inl (List.mem_append_left _ (q4 b hb)), hf.1 b (List.mem_append_left _ (q4 b hb))⟩) q3 hR
theorem de_atO {X : Cx} {a b : Expr} {pos : Pos} {m2 : Mode} {n : Nat} {f f' : FE} (ha : DE X B a (.own (n + 1)) f) (hb : DE X B b m2 f') (hs : PlainIx b := by exact fun _ _ => rfl) : DE X B (.Subscript a b pos) (.own n) (fBin gIxT f f') := de_ix ix_seq op2_ixO ha hb hs
theorem gIxT_1 {a b : D} {R : D → Prop} : gIxT (.tup [a, b]) (.int 1) R = R b := by
  show (∃ d, atI (a :: b :: []) 1 = some d ∧ R d) = R b
  rw [atI_1]; exact ex_some
/-- xs.index(x) -/
def gIndex (d : D) (ds : List D) (R : D → Prop) : Prop := ∃ (xs : List D) (x y : D) (j : Nat), d = .lst xs ∧ ds = [x] ∧ flD x = true ∧ xs.all flD = true ∧ xs[j]? = some y ∧ eqF y x = true ∧ (∀ m z, m < j → xs[m]? = some z → eqF z x = false) ∧ R (natD j)
theorem opM_index {K : PySem.W.Frag} {m1 m2 m : Mode} (hm : m1.look = true) : OpM K "list" (rIndex K) m1 [m2] m (fun d => ∃ xs, d = .lst xs) gIndex := by
  refine ⟨fun B F H x d fp w hx hf ⟨xs, e⟩ => ?_, fun B F H x d vs ds fp R Q w ⟨f1, f2, ef, h1, h2⟩ hf ⟨xs, u, y, j, e1, e2, e3, e4, e5, e6, e7, hR⟩ k => ?_⟩
  · subst e
    obtain ⟨_, a, vs, rfl, hs, it⟩ := hx.lst hm w
    exact .inl ⟨rfl, vs, hs⟩
  · subst e1
    subst e2
    obtain ⟨v, rfl, hv⟩ := h2.one
    obtain ⟨_, a, ws, rfl, hs, it⟩ := h1.lst hm w
    have ev := hv.fl e3
    have ew := it.fl e4
    subst ev
    subst ew
    refine ⟨a, _, flV u, j, flV y, rfl, rfl, hs, flV_flat u, ?_, ?_, ?_, fun m z hm hz => ?_, k.int w hR⟩
    · rw [List.all_map]
      exact List.all_eq_true.mpr fun z _ => flV_flat z
    · rw [List.getElem?_map, e5]; rfl
    · rw [eqF_V (List.all_eq_true.mp e4 y (List.mem_of_getElem? e5)) e3]; exact e6
    · rw [List.getElem?_map] at hz
      obtain ⟨z', hz', rfl⟩ := Option.map_eq_some_iff.mp hz
      rw [eqF_V (List.all_eq_true.mp e4 z' (List.mem_of_getElem? hz')) e3]
      exact e7 m z' hm hz'
theorem de_index {X : Cx} {o e : Expr} {apos cpos : Pos} {m m1 m2 : Mode} {f f' : FE} (ho : DE X B o m1 f) (he : DE X B e m2 f') (hm : m1.look = true := by rfl) (hs : starEach [e] X.env = (false, eval e X.env) :: starEach [] X.env := by rfl) (hb : BmOk X o "index" apos e [] cpos := by exact ⟨rfl, rfl, rfl, rfl, rfl⟩) :
    DE X B (.Call (.Attribute o "index" apos) [e] [] cpos) m (fun ρ R => f ρ fun d => (∃ xs, d = .lst xs) ∧ fArgs (fun ds R => gIndex d ds R) (fCons f' fNil) ρ R) :=
  de_M PySem.F.plainAttrs_list PySem.F.slot_list_index PySem.F.type_list_index mt_index (opM_index hm) ho (da_cons he da_nil hs) hb
end GK

namespace GK
open PySem PySem.Spec PyProof.Rows L2
/-- d.clear() -/
theorem dm_dclear {X : Cx} {pin : Nat} {x : Str} {p apos cpos : Pos} (i n : Nat) (hN : NameOk X i x := by exact ⟨rfl, by first | exact Or.inl rfl | exact Or.inr (Or.inl rfl) | exact Or.inr (Or.inr rfl), by decide, by decide⟩) (hb : Bm0Ok X (.Name x p) "clear" apos cpos := by exact ⟨rfl, rfl⟩) :
    DM X B (.Call (.Attribute (.Name x p) "clear" apos) [] [] cpos) pin (.own 0) (fun ρ R => ownDK ρ i n fun _ => R .non (ρ.set i (some (n + 1, .dK [])))) :=
  PE.imp (pe_dclear (pe_var hN.1 hN.2 hN.3 hN.4) hb.1 hb.2) fun σ H Q ⟨Pn, Z0, F0, F, ρ, fp, R, hpl, S, hf, k⟩ => by
    obtain ⟨ds, e0, hR⟩ := hf.inv
    obtain ⟨a, kvs, g, h1, h2, hk, h3, h4, h5, h6, kk⟩ := S.dK e0
    obtain ⟨fp2, S2⟩ := kk [] [] [] [] Apart.nil (fun b hb => by cases hb) List.nodup_nil rfl rfl
    exact ⟨_, h1, .inr (.inr (.inl ⟨rfl, .inl ⟨_, h2⟩⟩)), a, kvs, rfl, rfl, h2, k F _ _ fp2 .non .non [] S2 (Val.atom rfl fun _ => .non) Apart.nil hR⟩
section
variable {X : Cx} {e : Expr} {lo hi : Option Expr} {pos p2 : Pos} {m m1 : Mode} {f : FE} {fl fh : FO}
/-- t[lo:hi], not the whole of it -/
def gSlTp (d : D) (lo hi : Option Int) (R : D → Prop) : Prop := match d with
  | .tup xs => ¬ (HT.sIx xs.length 0 lo = 0 ∧ HT.sIx xs.length xs.length hi = xs.length) ∧ R (.tup (cutD xs lo hi))
  | _ => False
theorem de_slT (he : DE X B e (.own 0) f) (hl : DO X B lo fl) (hh : DO X B hi fh) : DE X B (.Subscript e (.Slice lo hi none p2) pos) (.own 0) (fun ρ R => f ρ fun d => fl ρ fun lo => fh ρ fun hi => gSlTp d lo hi R) :=
  PE.imp (pe_slice sl_tup he hl hh) fun _ _ _ q => tD_slice (m := .own 0) (r := rSlT X.K) (g := gSlTp) (by
    intro B F H x d fp lo hi R Q w hv hf hg k
    cases d <;> try exact (show False from hg).elim
    obtain ⟨hw, hg⟩ := hg
    obtain ⟨a, xs, rfl, ha, r⟩ := (show GK.R X.K F x _ from hv.1).tupI
    rw [← r.length] at hw
    exact ⟨a, xs, rfl, sqT_rd (w.sub _ _ ha), hw, fun l hl => k.newTup w (cut_rl r lo hi) hg hl⟩) q
end
end GK

namespace GK
open PySem PySem.Spec PyProof.Rows L2
/-- len(d), whatever its keys -/
def gLenD : List D → (D → Prop) → Prop
  | [.dK es], R => R (.int es.length)
  | [.dT es], R => R (.int es.length)
  | _, _ => False
section
variable {X : Cx} {e e2 : Expr} {x : Str} {p pos apos cpos : Pos} {m m1 m2 : Mode} {fs : FA} {f f' : FE}
theorem call_lenT : CallR X (.builtin "len") (fun xs H Q => ∃ a kvs, xs = [.ref a] ∧ Rd H a (.dT kvs) ∧ Q (.int kvs.length) H) := by
  intro pins s σ H xs us Q I r h
  obtain ⟨p, kvs, rfl, hp, q⟩ := h
  obtain ⟨u, rfl, rx⟩ := r.one
  obtain rfl : u = .ref p := rx
  obtain ⟨z, hd, ys, rel, dd⟩ := dt_rd I.hok hp
  have hl : kvs.length = ys.length := Paired.length rel
  refine call_len_dictH hd dd (by rw [← hl]; rw [sizeLine_eq] at z; omega) ?_
  rw [← hl]
  exact ⟨.int ((kvs.length : Nat) : Int), H, I.tok _, ⟨_, rfl⟩, q⟩
theorem call_lenD : CallR X (.builtin "len") (fun xs H Q => (∃ a kvs, xs = [.ref a] ∧ Rd H a (.dK kvs) ∧ Q (.int kvs.length) H) ∨ ∃ a kvs, xs = [.ref a] ∧ Rd H a (.dT kvs) ∧ Q (.int kvs.length) H) :=
  call_lenK.or call_lenT
theorem opN_lenD {K : PySem.W.Frag} (hm : m1.look = true) : OpN K (fun xs H Q => (∃ a kvs, xs = [.ref a] ∧ Rd H a (.dK kvs) ∧ Q (.int kvs.length) H) ∨ ∃ a kvs, xs = [.ref a] ∧ Rd H a (.dT kvs) ∧ Q (.int kvs.length) H) [m1] m gLenD := by
  intro B F H vs ds fp R Q w hv hf hg k
  unfold gLenD at hg
  split at hg
  · obtain ⟨v, rfl, h⟩ := hv.one
    obtain ⟨_, a, kvs, rfl, hr, hk, it⟩ := h.dK hm w
    have hlen := congrArg List.length hk
    rw [List.length_map, List.length_map] at hlen
    exact .inl ⟨a, kvs, rfl, hr, by rw [hlen]; exact k.int w hg⟩
  · obtain ⟨v, rfl, h⟩ := hv.one
    obtain ⟨_, a, kvs, rfl, hr, hk, it⟩ := h.dT hm w
    have hlen := congrArg List.length hk
    rw [List.length_map, List.length_map] at hlen
    exact .inr ⟨a, kvs, rfl, hr, by rw [hlen]; exact k.int w hg⟩
  · exact hg.elim
theorem de_lenT (hz : X.mg "len" = none) (ha : DE X B e m1 f) (hm : m1.look = true := by rfl) (hg : Gl X "len" := by rfl) (he : starEach [e] X.env = (false, eval e X.env) :: starEach [] X.env := by rfl) (hpl : (backTo pos (starEach [] X.env)).any (·.1) = false := by rfl) :
    DE X B (.Call (.Name "len" p) [e] [] pos) m (fArgs gLenD (fCons f fNil)) := de_B call_lenD (opN_lenD hm) hg hz PySem.boot_len (da_cons ha da_nil he) (by decide) (by decide) he hpl
end
theorem gLenD_dK {ds : List (Key × D)} {R : D → Prop} : gLenD [.dK ds] R = R (.int ds.length) := rfl
theorem gLenD_dT {ds : List (List Key × D)} {R : D → Prop} : gLenD [.dT ds] R = R (.int ds.length) := rfl
end GK

namespace GK
open PySem PySem.Spec PyProof.Rows L2
/-! ### tables by any key -/
section
variable {α β : Type} [DecidableEq α]
def gA (l : List (α × β)) (k : α) : Option β := (l.find? fun e => decide (e.1 = k)).map (·.2)
def iA (l : List (α × β)) (k : α) (v : β) : List (α × β) :=
  if (l.any fun e => decide (e.1 = k)) = true then l.map (fun e => if e.1 = k then (e.1, v) else e) else l ++ [(k, v)]
theorem gA_nil {k : α} : gA ([] : List (α × β)) k = none := rfl
theorem gA_cons {e : α × β} {l : List (α × β)} {k : α} : gA (e :: l) k = if e.1 = k then some e.2 else gA l k := by
  unfold gA
  rw [List.find?_cons]
  by_cases h : e.1 = k <;> simp [h]
theorem gA_mem {l : List (α × β)} {k : α} {v : β} (h : gA l k = some v) : (k, v) ∈ l := by
  induction l with
  | nil => cases h
  | cons e l ih =>
    rw [gA_cons] at h
    split at h
    · rename_i q
      cases h
      rw [← q]; exact List.mem_cons_self
    · exact List.mem_cons_of_mem _ (ih h)
theorem gA_none {l : List (α × β)} {k : α} : gA l k = none ↔ k ∉ l.map (·.1) := by
  induction l with
  | nil => simp [gA_nil]
  | cons e l ih =>
    rw [gA_cons, List.map_cons, List.mem_cons]
    by_cases h : e.1 = k
    · rw [if_pos h]; simp [h]
    · rw [if_neg h, ih]
      exact ⟨fun q z => z.elim (fun z => h z.symm) q, fun q z => q (.inr z)⟩
theorem gA_of_mem {l : List (α × β)} {k : α} {v : β} (nd : (l.map (·.1)).Nodup) (h : (k, v) ∈ l) : gA l k = some v := by
  induction l with
  | nil => cases h
  | cons e l ih =>
    rw [gA_cons]
    rw [List.map_cons, List.nodup_cons] at nd
    rcases List.mem_cons.mp h with rfl | h
    · rw [if_pos rfl]
    · have q : ¬ e.1 = k := fun z => nd.1 (by rw [z]; exact List.mem_map.mpr ⟨(k, v), h, rfl⟩)
      rw [if_neg q, ih nd.2 h]
theorem any_keyA {l : List (α × β)} {k : α} : (l.any fun e => decide (e.1 = k)) = true ↔ k ∈ l.map (·.1) := by
  rw [List.any_eq_true, List.mem_map]
  constructor
  · rintro ⟨e, h1, h2⟩; exact ⟨e, h1, of_decide_eq_true h2⟩
  · rintro ⟨e, h1, h2⟩; exact ⟨e, h1, decide_eq_true h2⟩
theorem iA_new {l : List (α × β)} {k : α} {v : β} (h : k ∉ l.map (·.1)) : iA l k v = l ++ [(k, v)] := by
  unfold iA; rw [if_neg (fun z => h (any_keyA.mp z))]
theorem iA_keys_old {l : List (α × β)} {k : α} {v : β} (h : k ∈ l.map (·.1)) : (iA l k v).map (·.1) = l.map (·.1) := by
  unfold iA
  rw [if_pos (any_keyA.mpr h), List.map_map]
  refine List.map_congr_left fun e _ => ?_
  show (if e.1 = k then (e.1, v) else e).1 = e.1
  split <;> rfl
theorem iA_keys {l : List (α × β)} {k : α} {v : β} : ∀ x, x ∈ (iA l k v).map (·.1) ↔ x ∈ l.map (·.1) ∨ x = k := by
  intro x
  by_cases h : k ∈ l.map (·.1)
  · rw [iA_keys_old h]
    exact ⟨.inl, fun z => z.elim id fun z => z ▸ h⟩
  · rw [iA_new h, List.map_append, List.mem_append, List.map_cons, List.map_nil, List.mem_singleton]
theorem iA_nodup {l : List (α × β)} {k : α} {v : β} (nd : (l.map (·.1)).Nodup) : ((iA l k v).map (·.1)).Nodup := by
  by_cases h : k ∈ l.map (·.1)
  · rw [iA_keys_old h]; exact nd
  · rw [iA_new h, List.map_append]
    exact List.nodup_append.mpr ⟨nd, by simp, fun a ha b hb e => by
      rw [List.map_cons, List.map_nil, List.mem_singleton] at hb
      have hb : b = k := hb
      subst e
      subst hb
      exact h ha⟩
theorem gA_iA {l : List (α × β)} {k x : α} {v : β} : gA (iA l k v) x = if x = k then some v else gA l x := by
  by_cases h : k ∈ l.map (·.1)
  · unfold iA
    rw [if_pos (any_keyA.mpr h)]
    induction l with
    | nil => cases h
    | cons e l ih =>
      rw [List.map_cons, gA_cons, gA_cons]
      by_cases q : e.1 = k
      · rw [if_pos q]
        by_cases hx : x = k
        · rw [if_pos hx, if_pos (by rw [q, hx])]
        · rw [if_neg hx, if_neg (fun z => hx (z.symm.trans q)), if_neg (fun z => hx (z.symm.trans q))]
          by_cases h2 : k ∈ l.map (·.1)
          · have := ih h2
            rw [if_neg hx] at this; exact this
          · have e1 : l.map (fun e => if e.1 = k then (e.1, v) else e) = l := by
              rw [List.map_congr_left (g := id) fun e he => ?_, List.map_id]
              exact if_neg (fun z : e.1 = k => h2 (by rw [← z]; exact List.mem_map.mpr ⟨e, he, rfl⟩))
            rw [e1]
      · rw [if_neg q]
        have h2 : k ∈ l.map (·.1) := by
          rw [List.map_cons] at h
          exact (List.mem_cons.mp h).elim (fun z => absurd z.symm q) id
        rw [ih h2]
        by_cases hx : x = k
        · rw [if_pos hx, if_neg (fun z => q (z.trans hx)), if_pos hx]
        · rw [if_neg hx, if_neg hx]
  · rw [iA_new h]
    have key : ∀ l : List (α × β), k ∉ l.map (·.1) → gA (l ++ [(k, v)]) x = if x = k then some v else gA l x := fun l => by
      induction l with
      | nil =>
        intro _
        rw [List.nil_append, gA_cons, gA_nil]
        by_cases hx : x = k
        · rw [if_pos hx, if_pos hx.symm]
        · rw [if_neg hx, if_neg fun z => hx z.symm]
      | cons e l ih =>
        intro hk
        rw [List.map_cons] at hk
        rw [List.cons_append, gA_cons, gA_cons, ih fun z => hk (List.mem_cons_of_mem _ z)]
        by_cases q : e.1 = x
        · have hx : ¬ x = k := fun z => hk (by rw [← z, ← q]; exact List.mem_cons_self)
          rw [if_pos q, if_neg hx, if_pos q]
        · rw [if_neg q, if_neg q]
    exact key l h
theorem iA_len {l : List (α × β)} {k : α} {v : β} : (iA l k v).length ≤ l.length + 1 := by
  unfold iA
  split
  · rw [List.length_map]; omega
  · rw [List.length_append, List.length_singleton]; omega
end
/-! ### as data -/
section
variable {α β κ : Type} [DecidableEq α] [DecidableEq κ] {q : α → κ} {f : β → D} {l : List (α × β)} {k : α} {v : β}
def kvA (q : α → κ) (f : β → D) (e : α × β) : κ × D := (q e.1, f e.2)
theorem putD_A (hq : ∀ a b, q a = q b → a = b) : putD (l.map (kvA q f)) (q k) (f v) = (iA l k v).map (kvA q f) := by
  unfold putD iA
  have e1 : ((l.map (kvA q f)).any fun e => decide (e.1 = q k)) = l.any fun e => decide (e.1 = k) := by
    rw [List.any_map]
    congr 1
    funext e
    show decide (q e.1 = q k) = decide (e.1 = k)
    by_cases h : e.1 = k
    · rw [decide_eq_true h, decide_eq_true (congrArg q h)]
    · rw [decide_eq_false h, decide_eq_false (fun z => h (hq _ _ z))]
  rw [e1]
  by_cases c : (l.any fun e => decide (e.1 = k)) = true
  · rw [if_pos c, if_pos c, List.map_map, List.map_map]
    refine List.map_congr_left fun e _ => ?_
    show (if q e.1 = q k then (q e.1, f v) else kvA q f e) = kvA q f (if e.1 = k then (e.1, v) else e)
    by_cases h : e.1 = k
    · rw [if_pos (congrArg q h), if_pos h]; rfl
    · rw [if_neg (fun z => h (hq _ _ z)), if_neg h]
  · rw [if_neg c, if_neg c, List.map_append]; rfl
theorem getD_A (hq : ∀ a b, q a = q b → a = b) : getD' (l.map (kvA q f)) (q k) = (gA l k).map f := by
  unfold getD'
  induction l with
  | nil => rfl
  | cons e l ih =>
    rw [List.map_cons, List.find?_cons, gA_cons]
    by_cases h : e.1 = k
    · rw [if_pos h]
      have : decide ((kvA q f e).1 = q k) = true := decide_eq_true (congrArg q h)
      rw [this]; rfl
    · rw [if_neg h]
      have : decide ((kvA q f e).1 = q k) = false := decide_eq_false (fun z => h (hq _ _ z))
      rw [this]
      exact ih
end
def qS (s : Str) : Key := .inr s
def qP (p : Str × Str) : List Key := [.inr p.1, .inr p.2]
theorem qS_inj : ∀ a b, qS a = qS b → a = b := fun _ _ h => Sum.inr.inj h
theorem qP_inj : ∀ a b, qP a = qP b → a = b := fun a b h => by
  unfold qP at h
  injection h with h1 h2
  injection h2 with h2
  exact Prod.ext (Sum.inr.inj h1) (Sum.inr.inj h2)
/-- a table by texts; a table by pairs of texts -/
def sT {β : Type} (f : β → D) (l : List (Str × β)) : D := .dK (l.map (kvA qS f))
def pT {β : Type} (f : β → D) (l : List ((Str × Str) × β)) : D := .dT (l.map (kvA qP f))
def prS (p : Str × Str) : D := .tup [.str p.1, .str p.2]
section
variable {β : Type} {f : β → D} {l : List (Str × β)} {k : Str} {v : β} {m : List ((Str × Str) × β)} {p : Str × Str}
theorem look_sT : lookD (sT f l) (.str k) = some ((gA l k).map f) := by
  show some (getD' (l.map (kvA qS f)) (qS k)) = _
  rw [getD_A qS_inj]
theorem look_pT : lookD (pT f m) (prS p) = some ((gA m p).map f) := by
  show some (getD' (m.map (kvA qP f)) (qP p)) = _
  rw [getD_A qP_inj]
theorem sget_go {R : D → Prop} (h : gA l k = some v) (q : R (f v)) : gDGet (sT f l) (.str k) R := ⟨f v, by rw [look_sT, h]; rfl, q⟩
theorem sin_go {b : Bool} {R : D → Prop} (q : R (.bl (b ^^ (gA l k).isSome))) : gDIn b (.str k) (sT f l) R := ⟨(gA l k).map f, look_sT, by rw [Option.isSome_map]; exact q⟩
theorem pget_go {R : D → Prop} (h : gA m p = some v) (q : R (f v)) : gDGet (pT f m) (prS p) R := ⟨f v, by rw [look_pT, h]; rfl, q⟩
theorem pin_go {b : Bool} {R : D → Prop} (q : R (.bl (b ^^ (gA m p).isSome))) : gDIn b (prS p) (pT f m) R := ⟨(gA m p).map f, look_pT, by rw [Option.isSome_map]; exact q⟩
theorem keys_sT : keysD (sT f l) = some ((l.map (·.1)).map .str) := by
  show some ((l.map (kvA qS f)).map fun e => keyD e.1) = _
  rw [List.map_map, List.map_map]; rfl
theorem keys_pT : keysD (pT f m) = some ((m.map (·.1)).map prS) := by
  show some ((m.map (kvA qP f)).map fun e => D.tup (e.1.map keyD)) = _
  rw [List.map_map, List.map_map]; rfl
theorem sput_go {ρ : Env} {i : Nat} {N : Env → Prop} (e : slot ρ i = some (1, sT f l)) (hl : l.length < sizeLine) (q : N (ρ.set i (some (1, sT f (iA l k v))))) :
    ownDK ρ i 0 fun ds => ds.length < sizeLine ∧ N (ρ.set i (some (1, .dK (putD ds (Sum.inr k : Key) (f v))))) := by
  unfold ownDK
  rw [e]
  refine ⟨rfl, by rw [List.length_map]; exact hl, ?_⟩
  have := putD_A (q := qS) (f := f) (l := l) (k := k) (v := v) qS_inj
  unfold qS at this
  unfold qS
  rw [this]; exact q
theorem pput_go {ρ : Env} {i : Nat} {N : Env → Prop} (e : slot ρ i = some (1, pT f m)) (hl : m.length < sizeLine) (q : N (ρ.set i (some (1, pT f (iA m p v))))) :
    ownDT ρ i 0 fun ds => ds.length < sizeLine ∧ N (ρ.set i (some (1, .dT (putD ds [(Sum.inr p.1 : Key), .inr p.2] (f v))))) := by
  unfold ownDT
  rw [e]
  refine ⟨rfl, by rw [List.length_map]; exact hl, ?_⟩
  have := putD_A (q := qP) (f := f) (l := m) (k := p) (v := v) qP_inj
  unfold qP at this
  unfold qP
  rw [this]; exact q
theorem own_sT {ρ : Env} {i n : Nat} {q : List (Key × D) → Prop} (e : slot ρ i = some (n + 1, sT f l)) (h : q (l.map (kvA qS f))) : ownDK ρ i n q := by
  unfold ownDK
  rw [e]
  exact ⟨rfl, h⟩
theorem own_pT {ρ : Env} {i n : Nat} {q : List (List Key × D) → Prop} (e : slot ρ i = some (n + 1, pT f m)) (h : q (m.map (kvA qP f))) : ownDT ρ i n q := by
  unfold ownDT
  rw [e]
  exact ⟨rfl, h⟩
theorem put_sT : putD (l.map (kvA qS f)) (Sum.inr k : Key) (f v) = (iA l k v).map (kvA qS f) := putD_A (q := qS) qS_inj
theorem put_pT {x y : Str} : putD (m.map (kvA qP f)) [(Sum.inr x : Key), .inr y] (f v) = (iA m (x, y) v).map (kvA qP f) := putD_A (q := qP) (k := (x, y)) qP_inj
end
/-! ### texts -/
def strOk (s : Str) : Bool := s.cps.all (· < 0x110000)
def abc : Str := "abcdefghijklmnopqrstuvwxyz"
theorem abc_len : abc.cps.toList.length = 26 := by decide +kernel
theorem abc_ok : abc.cps.toList.all (fun c => decide (c < 0x110000)) = true := by decide +kernel
theorem abc_sz : abc.length ≤ sizeLine := by decide +kernel
theorem strOk_one {c : Nat} (h : c < 0x110000) : strOk ⟨#[c]⟩ = true := by
  unfold strOk
  simp [h]
theorem strOk_iff {z : Str} : strOk z = true ↔ ∀ c ∈ z.cps.toList, c < 0x110000 := by
  unfold strOk
  rw [Array.all_eq_true']
  constructor
  · intro h c hc
    simpa using h c (by simpa using hc)
  · intro h c hc
    simpa using h c (by simpa using hc)
theorem len_cps (z : Str) : z.length = z.cps.toList.length := by
  unfold Str.length
  simp
theorem atI_nat {α : Type} {xs : List α} {i : Int} (h0 : 0 ≤ i) (h1 : i < xs.length) : ∃ c, atI xs i = some c ∧ c ∈ xs := by
  have hn : i.toNat < xs.length := by omega
  refine ⟨xs[i.toNat], ?_, List.getElem_mem _⟩
  unfold atI ixN
  rw [if_pos h0, if_pos h1]
  show xs[i.toNat]? = _
  exact List.getElem?_eq_getElem hn
theorem letter_go {i : Int} {R : D → Prop} (h0 : 0 ≤ i) (h1 : i < 26) (h : ∀ z : Str, strOk z = true → z.length = 1 → R (.str z)) : gIxS (.str abc) (.int i) R := by
  obtain ⟨c, e, hc⟩ := atI_nat (xs := abc.cps.toList) h0 (by rw [abc_len]; exact h1)
  refine ⟨abc_sz, c, e, h _ (strOk_one ?_) rfl⟩
  exact of_decide_eq_true (List.all_eq_true.mp abc_ok c hc)
theorem sign_go {z : Str} {i : Int} {R : D → Prop} (hz : z.length ≤ 8) (h0 : 0 ≤ i) (h1 : i < z.length) (h : ∀ y : Str, R (.str y)) : gIxS (.str z) (.int i) R := by
  obtain ⟨c, e, hc⟩ := atI_nat (xs := z.cps.toList) h0 (by rw [← len_cps]; exact h1)
  exact ⟨by rw [szL]; omega, c, e, h _⟩
theorem strOk_rep {z : Str} {n : Int} (h : strOk z = true) : strOk (repS z n) = true := by
  rw [strOk_iff] at h ⊢
  intro c hc
  unfold repS at hc
  have hc : c ∈ (List.replicate n.toNat z.cps.toList).flatten := by simpa using hc
  obtain ⟨l, hl, hcl⟩ := List.mem_flatten.mp hc
  rw [(List.mem_replicate.mp hl).2] at hcl
  exact h c hcl
theorem strOk_cut {z : Str} {lo hi : Option Int} (h : strOk z = true) : strOk (cutS z lo hi) = true := by
  rw [strOk_iff] at h ⊢
  intro c hc
  unfold cutS at hc
  have hc : c ∈ (z.cps.toList.drop (HT.sIx z.length 0 lo)).take (HT.sIx z.length z.length hi - HT.sIx z.length 0 lo) := by simpa using hc
  exact h c (List.mem_of_mem_drop (List.mem_of_mem_take hc))
theorem strOk_cat {a b : Str} (h1 : strOk a = true) (h2 : strOk b = true) : strOk (a ++ b) = true := by
  rw [strOk_iff] at h1 h2 ⊢
  intro c hc
  have hc : c ∈ (a.cps ++ b.cps).toList := hc
  rw [Array.toList_append] at hc
  exact (List.mem_append.mp hc).elim (h1 c) (h2 c)
theorem len_cat (a b : Str) : (a ++ b).length = a.length + b.length := by
  show (a.cps ++ b.cps).size = a.cps.size + b.cps.size
  rw [Array.size_append]
theorem cut_len (z : Str) (lo hi : Option Int) : (cutS z lo hi).length = min (HT.sIx z.length z.length hi - HT.sIx z.length 0 lo) (z.length - HT.sIx z.length 0 lo) := by
  rw [len_cps]
  unfold cutS
  simp [List.length_take, List.length_drop]
  rfl
theorem cut_to {z : Str} {a : Int} (h0 : 0 ≤ a) (h1 : a ≤ z.length) : (cutS z none (some a)).length = a.toNat := by
  rw [cut_len]
  have e : a = ((a.toNat : Nat) : Int) := by omega
  rw [e, HT.sIx_nat, HT.sIx_none]
  omega
theorem cut_from {z : Str} {a : Int} (h0 : 0 ≤ a) (h1 : a ≤ z.length) : (cutS z (some a) none).length = z.length - a.toNat := by
  rw [cut_len]
  have e : a = ((a.toNat : Nat) : Int) := by omega
  rw [e, HT.sIx_nat, HT.sIx_none]
  omega
/-- a word with one sign put anew -/
theorem anew {w z : Str} {a : Int} {n : Nat} (hw : strOk w = true) (hz : strOk z = true) (hn : w.length = n) (h1 : z.length = 1) (h0 : 0 ≤ a) (ha : a < n) : strOk (cutS w none (some a) ++ z ++ cutS w (some (a + 1)) none) = true ∧ (cutS w none (some a) ++ z ++ cutS w (some (a + 1)) none).length = n := by
  refine ⟨strOk_cat (strOk_cat (strOk_cut hw) hz) (strOk_cut hw), ?_⟩
  rw [len_cat, len_cat, cut_to h0 (by omega), h1, cut_from (by omega) (by omega), hn]
  omega
theorem all_str (l : List Str) : (l.map D.str).all flD = true := by
  rw [List.all_eq_true]
  intro d hd
  obtain ⟨s, _, rfl⟩ := List.mem_map.mp hd
  rfl
theorem gSlS_str {z : Str} {lo hi : Option Int} {R : D → Prop} : gSlS (.str z) lo hi R = (z.length ≤ sizeLine ∧ R (.str (cutS z lo hi))) := rfl
theorem gCatS_str {a b : Str} {R : D → Prop} : gCatS (.str a) (.str b) R = (a.length + b.length ≤ sizeLine ∧ R (.str (a ++ b))) := rfl
theorem gRepS_str {a : Str} {n : Int} {R : D → Prop} : gRepS (.str a) (.int n) R = (-(2 ^ 63) ≤ n ∧ n < 2 ^ 63 ∧ n.toNat * a.length ≤ sizeLine ∧ R (.str (repS a n))) := rfl
theorem gFind_str {a b : Str} {R : D → Prop} : gFind (.str a) [.str b] R = R (.int (Txt.find a b)) := rfl
theorem pick_ix {j : Int} {n : Nat} (h0 : 0 ≤ j) (h1 : j < n) : ixN n j = some j.toNat := by
  unfold ixN
  rw [if_pos h0, if_pos h1]

def leS (a b : Str) : Bool := leD (.str a) (.str b)
theorem leD_total : PySem.W.TotalLe leD := PySem.W.sortLe_total _ false _
theorem leS_total : PySem.W.TotalLe leS := ⟨fun a b c => leD_total.trans (.str a) (.str b) (.str c), fun a b => leD_total.total (.str a) (.str b)⟩
theorem sort_strs {ws : List Str} (h : ∀ w ∈ ws, strOk w = true) : sortOk (ws.map .str) := by
  refine ⟨fun d hd => ?_, fun d hd d' hd' => ?_, ?_⟩
  · obtain ⟨w, hw, rfl⟩ := List.mem_map.mp hd
    exact h w hw
  · rw [List.map_map] at hd hd'
    obtain ⟨w, hw, rfl⟩ := List.mem_map.mp hd
    obtain ⟨w', hw', rfl⟩ := List.mem_map.mp hd'
    rfl
  · refine .inr fun d hd => ?_
    rw [List.map_map] at hd
    obtain ⟨w, hw, rfl⟩ := List.mem_map.mp hd
    exact ⟨fun z => (by cases z), fun xs z => (by cases z)⟩
theorem map_sort_strs (ws : List Str) : (ws.map .str).mergeSort leD = (ws.mergeSort leS).map .str :=
  (List.map_mergeSort (r := leS) (s := leD) (f := .str) (l := ws) fun _ _ _ _ => rfl).symm
theorem sort_twice (ws : List Str) : (ws.mergeSort leS).mergeSort leS = ws.mergeSort leS :=
  List.mergeSort_of_pairwise (List.pairwise_mergeSort leS_total.trans (fun a b => by
    rcases leS_total.total a b with h | h <;> simp [h]) ws)
end GK

namespace GK
open PySem PySem.Spec PyProof.Rows L2
/-! ### sorted(d) of fewer than 64 texts -/
theorem leS_iff {a b : Str} : leS a b = true ↔ a.cps.toList ≤ b.cps.toList := by
  show (!PySem.W.dataLt (.str b) (.str a)) = true ↔ _
  rw [PySem.W.dataLt_str]
  rw [PySem.W.not_lt_str, decide_eq_true_eq]
theorem leS_anti {a b : Str} (h1 : leS a b = true) (h2 : leS b a = true) : a = b := by
  have := List.le_antisymm (leS_iff.mp h1) (leS_iff.mp h2)
  cases a; cases b
  rename_i x y
  exact congrArg Str.mk (Array.ext' this)
theorem leS_lt {a b : Str} : (!ltCps b.cps.toList a.cps.toList) = leS a b := by
  rw [ltCps_eq]
  show _ = (!PySem.W.dataLt (.str b) (.str a))
  rw [PySem.W.dataLt_str]
theorem rising_pw : ∀ {r : List Str} {p : Str}, risingS p r = true → (p :: r).Pairwise fun a b => leS a b = true
  | [], p, _ => by simp
  | x :: r, p, h => by
    have h : (!ltCps x.cps.toList p.cps.toList && risingS x r) = true := h
    rw [Bool.and_eq_true, leS_lt] at h
    have ih := rising_pw h.2
    refine List.pairwise_cons.mpr ⟨fun y hy => ?_, ih⟩
    rcases List.mem_cons.mp hy with e | hy
    · rw [e]; exact h.1
    · exact leS_total.trans _ _ _ h.1 ((List.pairwise_cons.mp ih).1 y hy)
theorem sortedS_eq {ys ks : List Str} (p : ys.Perm ks) (h : sortedS ys = true) : ys = ks.mergeSort leS := by
  refine List.Perm.eq_of_pairwise (le := fun a b => leS a b = true) (fun a b _ _ h1 h2 => leS_anti h1 h2) ?_ (List.pairwise_mergeSort leS_total.trans (fun a b => by
    rcases leS_total.total a b with h | h <;> simp [h]) ks) (p.trans (List.mergeSort_perm _ _).symm)
  cases ys with
  | nil => exact .nil
  | cons x r => exact rising_pw h
def gSortK : List D → (D → Prop) → Prop
  | [.dK es], R => ∃ ks : List Str, es.map (·.1) = ks.map Sum.inr ∧ ks.length < 64 ∧ R (.lst ((ks.mergeSort leS).map .str))
  | _, _ => False
theorem rl_strs {K : PySem.W.Frag} {F : Hp} : ∀ ys : List Str, RL K F (ys.map V.str) (ys.map D.str)
  | [] => .nil
  | y :: ys => .cons (.str y) (rl_strs ys)
theorem opN_sortK {K : PySem.W.Frag} {m1 : Mode} (h1 : m1.look = true) : OpN K (fun xs H Q => ∃ (a : Addr) (kvs : List (Key × V)) (ks : List Str), xs = [.ref a] ∧ Rd H a (.dK kvs) ∧ kvs.map (·.1) = ks.map Sum.inr ∧ ks.length < 64 ∧
    ∀ ys p, ys.Perm ks → sortedS ys = true → H p = none → Q (.ref p) (upd H p (.lst (ys.map V.str)))) [m1] (.own 1) gSortK := by
  intro B F H vs ds fp R Q w hv hf hg k
  unfold gSortK at hg
  split at hg
  · obtain ⟨ks, ek, hl, hR⟩ := hg
    obtain ⟨v, rfl, h⟩ := hv.one
    obtain ⟨_, a, kvs, rfl, hr, hk, it⟩ := h.dK h1 w
    refine ⟨a, kvs, ks, rfl, hr, hk.trans ek, hl, fun ys p hp hs hz => ?_⟩
    rw [sortedS_eq hp hs]
    exact k.newLst0 w (rl_strs _) hR hz
  · exact hg.elim
section
variable {X : Cx} {e : Expr} {p pos : Pos} {m m1 : Mode} {f : FE}
theorem de_sortedK (hc : X.calm = true) (hz : X.mg "sorted" = none) (ha : DE X B e m1 f) (hm : m1.look = true := by rfl) (hg : Gl X "sorted" := by rfl) (he : starEach [e] X.env = (false, eval e X.env) :: starEach [] X.env := by rfl) (hpl : (backTo pos (starEach [] X.env)).any (·.1) = false := by rfl) :
    DE X B (.Call (.Name "sorted" p) [e] [] pos) (.own 1) (fArgs gSortK (fCons f fNil)) := de_B (call_sortedD hc) (opN_sortK hm) hg hz (by decide +kernel) (da_cons ha da_nil he) (by decide) (by decide) he hpl
end
theorem gSortK_sT {β : Type} {f : β → D} {l : List (Str × β)} {R : D → Prop} (h : l.length < 64) (q : R (.lst (((l.map (·.1)).mergeSort leS).map .str))) : gSortK [sT f l] R :=
  ⟨l.map (·.1), by rw [List.map_map, List.map_map]; rfl, by rw [List.length_map]; exact h, q⟩
end GK

namespace GK
open PySem PySem.Spec PyProof.Rows L2
/-! ### isinstance of a dict by tuples, locked or not -/
theorem call_isiDT {X : Cx} : CallR X (.builtin "isinstance") (fun xs H Q => ∃ (a : Addr) (kvs : List (List Key × V)) (c : V) (u : Value) (b : Bool), xs = [.ref a, c] ∧ Rd H a (.dT kvs) ∧ ClsV c u ∧ PySem.W.kitOne X.K (.type "dict") u = some b ∧ Q (.bl b) H) := by
  intro pins s σ H xs us Q I r h
  obtain ⟨a, kvs, c, u, b, rfl, hr, k, e, q⟩ := h
  obtain ⟨u1, u2, rfl, r1, r2⟩ := vals2 r
  have e2 := k.eq r2
  subst e2
  cases (show u1 = Value.ref a from r1)
  obtain ⟨z, hd, ys, rel, o, es, ep, h1, h2, _⟩ := dt_rd I.hok hr
  exact PySem.W.kia_one PySem.W.kitx_dict I.kIn ⟨o, h1, h2.1⟩ e (fun z => nomatch z) fun tk => ⟨.bl b, H, I.tok tk, rfl, q⟩
def gIsiD (K : PySem.W.Frag) : List D → (D → Prop) → Prop
  | [.dT _, .raw c], R => ∃ u b, clV c = some u ∧ PySem.W.kitOne K (.type "dict") u = some b ∧ R (.bl b)
  | ds, R => gIsi K ds R
theorem opN_isiD {K : PySem.W.Frag} {m m1 m2 : Mode} (hm : m1.look = true) : OpN K (fun xs H Q => rIsi K xs H Q ∨ ∃ (a : Addr) (kvs : List (List Key × V)) (c : V) (u : Value) (b : Bool), xs = [.ref a, c] ∧ Rd H a (.dT kvs) ∧ ClsV c u ∧ PySem.W.kitOne K (.type "dict") u = some b ∧ Q (.bl b) H) [m1, m2] m (gIsiD K) := by
  intro B F H vs ds fp R Q w hv hf hg k
  unfold gIsiD at hg
  split at hg
  · obtain ⟨u, b, e2, e3, hR⟩ := hg
    obtain ⟨v, v', f, f', rfl, h, h', _⟩ := hv.two
    have := raw_v h'
    subst this
    obtain ⟨_, a, kvs, rfl, hr, hk, it⟩ := h.dT hm w
    exact .inr ⟨a, kvs, _, u, b, rfl, hr, clV_ok e2, e3, k.bl w hR⟩
  · exact .inl (opN_isi hm B F H vs _ fp R Q w hv hf hg k)
theorem de_isiD {X : Cx} {e e2 : Expr} {p pos : Pos} {m m1 m2 : Mode} {f f' : FE} (K : PySem.W.Frag) (hK : X.K = K) (hz : X.mg "isinstance" = none) (ha : DE X B e m1 f) (hb : DE X B e2 m2 f') (hm : m1.look = true := by rfl) (hg : Gl X "isinstance" := by rfl) (he : starEach [e, e2] X.env = (false, eval e X.env) :: starEach [e2] X.env := by rfl) (he2 : starEach [e2] X.env = (false, eval e2 X.env) :: starEach [] X.env := by rfl) (hpl : (backTo pos (starEach [e2] X.env)).any (·.1) = false := by rfl) :
    DE X B (.Call (.Name "isinstance" p) [e, e2] [] pos) m (fArgs (gIsiD K) (fCons f (fCons f' fNil))) := by
  subst hK
  exact de_B (call_isi.or call_isiDT) (opN_isiD hm) hg hz (by decide +kernel) (da_cons ha (da_cons hb da_nil he2) he) (by decide) (by decide) he hpl
theorem isiD_dT {K : PySem.W.Frag} {es : List (List Key × D)} {n : String} {b : Bool} {R : D → Prop} (hk : kitB "dict" n = some b) (h : R (.bl b)) : gIsiD K [.dT es, .raw (.ty n)] R := ⟨_, b, rfl, kit_ty hk, h⟩
end GK

namespace GK
open PySem PySem.Spec PyProof.Rows L2
section
variable {X : Cx} {pin n i j : Nat} {pos p1 p2 p apos cpos : Pos} {x y : Str} {mr m : Mode} {e : Expr} {f : FE}
/-- an atom may count as owned -/
theorem de_atm (n : Nat) (h : DE X B e (.own 0) f) : DE X B e (.own n) (fun ρ R => f ρ fun d => atomD d = true ∧ R d) := PE.imp h fun σ H Q ⟨F, ρ, fp, R, S, hf, k⟩ => ⟨F, ρ, fp, _, S, hf, fun F' H' v d f' s hv ho hn ⟨ha, hR⟩ => by
  obtain ⟨⟨G, r⟩, e0⟩ := hv.atomR ha
  subst e0
  exact k F' H' v d [] s (Val.atom ha fun F => by cases d <;> first | (cases ha; done) | (cases r; constructor)) (fun a h => (by cases h)) List.nodup_nil hR⟩
/-- t[k] of an owned tuple -/
theorem dm_atC {f : FM} (n : Nat) {k : Int} {jj : Nat} (ha : DM X B e pin (.own (n + 1)) f) : DM X B (.Subscript e (.Constant (.int k) jj p1) pos) pin (.own n) (fun ρ R => f ρ fun d ρ' => gIxT d (.int k) fun c => R c ρ') :=
  PE.imp (pe_ix ix_seq ha pe_int fun _ _ => rfl) fun σ H Q ⟨Pn, Z0, F0, F, ρ, fp, R, hpl, S, hf, kk⟩ => by
    refine ⟨Pn, Z0, F0, F, ρ, fp, _, hpl, S, hf, fun F' H' ρ' fp' v d f' S' hv ap hR => ?_⟩
    cases d <;> try exact (show False from hR).elim
    obtain ⟨c, hc, hR⟩ := hR
    obtain ⟨a, vs, rfl, ha, ol⟩ := (show Own X.K F' H' (n + 1) v (.tup _) f' from hv)
    obtain ⟨j, e1, e2⟩ := atI_same ol.len hc
    obtain ⟨w, g, q1, q2, q3, q4⟩ := ol.pick ap.2 e1
    refine .inr (.inl ⟨a, vs, k, w, rfl, rfl, tup_sub S'.wf ha, e2 w q1, ?_⟩)
    exact kk F' H' ρ' fp' w c g S' q2 ⟨fun b hb => ap.1 b (q4 b hb), q3⟩ hR
/-- ("text", x), x taken -/
theorem dm_tupCT (i n : Nat) {s : Str} {k jj : Nat} (hN : NameOk X i x := by exact ⟨rfl, by first | exact Or.inl rfl | exact Or.inr (Or.inl rfl) | exact Or.inr (Or.inr rfl), by decide, by decide⟩)
    (hs : starEach [.Constant (.str s) jj p2, .Name x p1] X.env = (false, eval (.Constant (.str s) jj p2) X.env) :: starEach [.Name x p1] X.env := by rfl) (hs2 : starEach [.Name x p1] X.env = (false, eval (.Name x p1) X.env) :: starEach [] X.env := by rfl) :
    DM X B (.Tuple [.Constant (.str s) jj p2, .Name x p1] k pos) pin (.own (n + 1)) (fun ρ R => mTake i n ρ fun d ρ1 => R (.tup [.str s, d]) ρ1) :=
  PE.imp (pe_tup (pa_cons pe_str (pa_cons (pe_var hN.1 hN.2 hN.3 hN.4) pa_nil hs2) hs)) fun σ H Q ⟨Pn, Z0, F0, F, ρ, fp, R, hpl, S, hf, k⟩ => by
    obtain ⟨d, q, hR⟩ := mTake_inv (show mTake i n ρ _ from hf)
    obtain ⟨v, f, fp1, e1, o1, S1, ap1, sub1⟩ := S.take q
    refine ⟨v, e1, by show 2 ≤ sizeLine; decide, fun p hp => ?_⟩
    have st := Step.laidF (A := []) S1.wf hp (o := .tup [.str s, v]) rfl
    have S3 := S1.step st fun a h => (by cases h)
    have np : ∀ a ∈ f, a ≠ p := fun a ha z => by
      obtain ⟨ob, eo, _⟩ := o1.there a ha
      rw [z, hp] at eo; cases eo
    have on : Own X.K (upd F p (.tup [.str s, v])) (upd H p (.tup [.str s, v])) n (.str s) (.str s) [] := by cases n <;> exact ⟨.str s, rfl⟩
    refine k _ _ _ fp1 (.ref p) (.tup [.str s, d]) f S3 ⟨p, [.str s, v], rfl, upd_same, [], f, rfl, on, f, [], (List.append_nil f).symm, Own.mono st.fs (fun a ha o eo => by rw [upd_ne (np a ha)]; exact eo) o1, rfl⟩ ⟨fun a ha => ?_, ap1.2⟩ hR
    obtain ⟨r1, r2, r3, r4⟩ := ap1.1 a ha
    refine ⟨?_, r2, r3, r4⟩
    rw [upd_ne (np a ha)]; exact r1
/-- xs.clear() -/
theorem dm_lclear (i n : Nat) (hN : NameOk X i x := by exact ⟨rfl, by first | exact Or.inl rfl | exact Or.inr (Or.inl rfl) | exact Or.inr (Or.inr rfl), by decide, by decide⟩) (hb : Bm0Ok X (.Name x p) "clear" apos cpos := by exact ⟨rfl, rfl⟩) :
    DM X B (.Call (.Attribute (.Name x p) "clear" apos) [] [] cpos) pin (.own 0) (fun ρ R => ownLst ρ i n fun _ => R .non (ρ.set i (some (n + 1, .lst [])))) :=
  PE.imp (pe_bm0 PySem.F.plainAttrs_list PySem.F.slot_list_clear PySem.F.type_list_clear mt_clear (pe_var hN.1 hN.2 hN.3 hN.4) hb.1 hb.2) fun σ H Q ⟨Pn, Z0, F0, F, ρ, fp, R, hpl, S, hf, k⟩ => by
    obtain ⟨ds, e0, hR⟩ := hf.inv
    obtain ⟨a, vs, g, h1, h2, h3, h4, h5, h6, kk⟩ := S.lst e0
    obtain ⟨fp2, S2⟩ := kk [] [] [] [] Apart.nil (fun b hb => by cases hb) List.nodup_nil rfl
    exact ⟨_, h1, .inl ⟨rfl, _, SqL.of h2⟩, a, vs, rfl, rfl, h2, k F _ _ fp2 .non .non [] S2 (Val.atom rfl fun _ => .non) Apart.nil hR⟩
end
end GK
namespace GK
open PySem PySem.Spec PyProof.Rows L2
/-! ### is, of truth values -/
section
variable {X : Cx} {a b : Expr} {pos : Pos} {m m1 m2 : Mode} {f f' : FE}
def gIsB (n : Bool) : D → D → (D → Prop) → Prop
  | .bl x, .bl y, R => R (.bl (n ^^ decide (x = y)))
  | _, _, _ => False
theorem op2_isB {K : PySem.W.Frag} {n : Bool} : Op2 K (fun x y H Q => ∃ a b, x = .bl a ∧ y = .bl b ∧ Q (.bl (n ^^ decide (a = b))) H) m1 m2 m (gIsB n) := by
  intro B F H x y d e fp R Q w ⟨f1, f2, ef, h1, h2⟩ hf hg k
  subst ef
  cases d <;> cases e <;> try exact (show False from hg).elim
  obtain ⟨rfl, _⟩ := h1.bl
  obtain ⟨rfl, _⟩ := h2.bl
  exact ⟨_, _, rfl, rfl, k.bl w hg⟩
theorem op_isB' : OpR X (compareOp .Is) (fun x y H Q => ∃ a b, x = .bl a ∧ y = .bl b ∧ Q (.bl (false ^^ decide (a = b))) H) := fun pins s σ H x y v u Q I rx ry ⟨a, b, h1, h2, h3⟩ => op_is_bl pins s σ H x y v u Q I rx ry ⟨a, b, h1, h2, by simpa using h3⟩
theorem op_notB' : OpR X (compareOp .IsNot) (fun x y H Q => ∃ a b, x = .bl a ∧ y = .bl b ∧ Q (.bl (true ^^ decide (a = b))) H) := fun pins s σ H x y v u Q I rx ry ⟨a, b, h1, h2, h3⟩ => op_isnot_bl pins s σ H x y v u Q I rx ry ⟨a, b, h1, h2, by simpa using h3⟩
theorem de_isB (ha : DE X B a m1 f) (hb : DE X B b m2 f') : DE X B (.Compare a [.Is] [b] pos) m (fBin (gIsB false) f f') := de_cmp op_isB' op2_isB ha hb (nomark _)
theorem de_isnotB (ha : DE X B a m1 f) (hb : DE X B b m2 f') : DE X B (.Compare a [.IsNot] [b] pos) m (fBin (gIsB true) f f') := de_cmp op_notB' op2_isB ha hb (nomark _)
theorem dt_isB (ha : DE X B a m1 f) (hb : DE X B b m2 f') : DT X B (.Compare a [.Is] [b] pos) (fBool (fBin (gIsB false) f f')) := dt_cmp .rd op_isB' op2_isB ha hb (nomark _)
theorem dt_isnotB (ha : DE X B a m1 f) (hb : DE X B b m2 f') : DT X B (.Compare a [.IsNot] [b] pos) (fBool (fBin (gIsB true) f f')) := dt_cmp .rd op_notB' op2_isB ha hb (nomark _)
end
theorem gIsB_bl {n x y : Bool} {R : D → Prop} : gIsB n (.bl x) (.bl y) R = R (.bl (n ^^ decide (x = y))) := rfl
end GK

namespace GK
open PySem PySem.Spec PyProof.Rows L2
/-! ### plain data: equal exactly if the same -/
mutual
def pnD : D → Bool
  | .non => true
  | .int _ => true
  | .str _ => true
  | .tup xs => pnDs xs
  | .lst xs => pnDs xs
  | _ => false
def pnDs : List D → Bool
  | [] => true
  | d :: ds => pnD d && pnDs ds
end
mutual
theorem eqv_pn : ∀ (x y : D), pnD x = true → pnD y = true → (PyData.eqv (toP x) (toP y) = true ↔ x = y)
  | .non, y, _, h => by cases y <;> simp [pnD, toP, PyData.eqv] at h ⊢
  | .int i, y, _, h => by cases y <;> simp [pnD, toP, PyData.eqv] at h ⊢
  | .str i, y, _, h => by cases y <;> simp [pnD, toP, PyData.eqv] at h ⊢
  | .tup xs, y, g, h => by
    cases y <;> simp [pnD, toP, PyData.eqv] at g h ⊢
    exact eqvs_pn xs _ g h
  | .lst xs, y, g, h => by
    cases y <;> simp [pnD, toP, PyData.eqv] at g h ⊢
    exact eqvs_pn xs _ g h
  | .bl _, _, h, _ => by simp [pnD] at h
  | .raw _, _, h, _ => by simp [pnD] at h
  | .kp _, _, h, _ => by simp [pnD] at h
  | .dK _, _, h, _ => by simp [pnD] at h
  | .dT _, _, h, _ => by simp [pnD] at h
  | .obj _ _, _, h, _ => by simp [pnD] at h
theorem eqvs_pn : ∀ (xs ys : List D), pnDs xs = true → pnDs ys = true → (PyData.eqvAll (toPs xs) (toPs ys) = true ↔ xs = ys)
  | [], ys, _, h => by cases ys <;> simp [toPs, PyData.eqvAll]
  | x :: xs, [], _, h => by simp [toPs, PyData.eqvAll]
  | x :: xs, y :: ys, g, h => by
    rw [pnDs, Bool.and_eq_true] at g h
    rw [toPs, toPs, PyData.eqvAll, Bool.and_eq_true, eqv_pn x y g.1 h.1, eqvs_pn xs ys g.2 h.2, List.cons.injEq]
end
theorem pnDs_all : ∀ {ds : List D}, (∀ d ∈ ds, pnD d = true) → pnDs ds = true
  | [], _ => rfl
  | d :: ds, h => by
    rw [pnDs, h d List.mem_cons_self, pnDs_all fun x hx => h x (List.mem_cons_of_mem _ hx)]; rfl
theorem pn_map {α : Type} {f : α → D} {l : List α} (h : ∀ a ∈ l, pnD (f a) = true) : pnDs (l.map f) = true := pnDs_all fun d hd => by
  obtain ⟨a, ha, rfl⟩ := List.mem_map.mp hd
  exact h a ha
theorem okDs_map {α : Type} {n : Nat} {f : α → D} {l : List α} (h : ∀ a ∈ l, okD n (f a) = true) : okDs n (l.map f) = true := okDs_all fun d hd => by
  obtain ⟨a, ha, rfl⟩ := List.mem_map.mp hd
  exact h a ha
theorem eqvD_iff {x y : D} (hx : pnD x = true) (hy : pnD y = true) {p : Prop} [Decidable p] (h : x = y ↔ p) : eqvD x y = decide p := by
  have := (eqv_pn x y hx hy).trans h
  unfold eqvD
  by_cases c : p
  · rw [decide_eq_true c]; exact this.mpr c
  · rw [decide_eq_false c]
    cases q : PyData.eqv (toP x) (toP y) with
    | false => rfl
    | true => exact absurd (this.mp q) c
theorem gEqD_go {n : Bool} {x y : D} {R : D → Prop} {p : Prop} [Decidable p] (h1 : okD 60 x = true) (h2 : okD 60 y = true) (hx : pnD x = true) (hy : pnD y = true) (h : x = y ↔ p) (q : R (.bl (n ^^ decide p))) : gEqD n x y R := ⟨h1, h2, by rw [eqvD_iff hx hy h]; exact q⟩
theorem gInD_go {α : Type} [DecidableEq α] {ι : α → D} {n : Bool} {x : α} {ys : List α} {R : D → Prop} (inj : ∀ a b, ι a = ι b → a = b) (pn : ∀ a, pnD (ι a) = true) (h1 : okD 63 (ι x) = true) (h2 : ∀ y ∈ ys, okD 63 (ι y) = true) (q : R (.bl (n ^^ decide (x ∈ ys)))) : gInD n (ι x) (.lst (ys.map ι)) R := by
  refine ⟨_, rfl, h1, by rw [okD]; exact okDs_map h2, ?_⟩
  have e : ((ys.map ι).any fun z => PyData.eqv (toP z) (toP (ι x))) = decide (x ∈ ys) := by
    rw [List.any_map]
    have key : ∀ l : List α, (l.any ((fun z => PyData.eqv (toP z) (toP (ι x))) ∘ ι)) = decide (x ∈ l) := fun l => by
      induction l with
      | nil => rfl
      | cons y l ih =>
        rw [List.any_cons, ih]
        have : PyData.eqv (toP (ι y)) (toP (ι x)) = decide (y = x) := eqvD_iff (pn y) (pn x) ⟨inj y x, fun e => by rw [e]⟩
        show (PyData.eqv (toP (ι y)) (toP (ι x)) || decide (x ∈ l)) = _
        rw [this]
        by_cases c : y = x
        · subst c; simp
        · have c2 : ¬ x = y := fun z => c z.symm
          simp [c, c2]
    exact key ys
  rw [e]; exact q
theorem gInD_strs {n : Bool} {x : Str} {ys : List Str} {R : D → Prop} (h1 : strOk x = true) (h2 : ∀ y ∈ ys, strOk y = true) (q : R (.bl (n ^^ decide (x ∈ ys)))) : gInD n (.str x) (.lst (ys.map .str)) R :=
  gInD_go (ι := D.str) (fun a b h => by cases h; rfl) (fun _ => rfl) h1 h2 q
/-! ### the last item -/
theorem gIx_neg {ds : List D} {x : D} {R : D → Prop} (h : ds.getLast? = some x) (q : R x) : gIx (.lst ds) (.int (-1)) R := by
  obtain ⟨l, rfl⟩ : ∃ l, ds = l ++ [x] := by
    rcases List.eq_nil_or_concat ds with z | ⟨l, y, z⟩
    · rw [z] at h; cases h
    · rw [List.concat_eq_append] at z
      rw [z, List.getLast?_append] at h
      simp at h
      exact ⟨l, by rw [z, h]⟩
  exact gIx_last q
/-! ### the type of a value -/
theorem gIsi_eq {K : PySem.W.Frag} {d : D} {a n : String} {b : Bool} {R : D → Prop} (ht : tyD d = some (.type a)) (hk : kitB a n = some b) (hn : ∀ C es, d ≠ .obj C es) : gIsi K [d, .raw (.ty n)] R = R (.bl b) := by
  apply propext
  constructor
  · rintro ⟨t, u, b', h1, h2, h3, _, h⟩
    rw [ht] at h1
    cases h1
    cases h2
    rw [kit_ty hk] at h3
    cases h3
    exact h
  · exact gIsi_go ht hk hn
theorem isi_tup_tup {K : PySem.W.Frag} {xs : List D} {R : D → Prop} : gIsi K [.tup xs, .raw (.ty "tuple")] R = R (.bl true) := gIsi_eq (a := "tuple") rfl rfl (fun _ _ e => by cases e)
theorem isi_tup_lst {K : PySem.W.Frag} {xs : List D} {R : D → Prop} : gIsi K [.tup xs, .raw (.ty "list")] R = R (.bl false) := gIsi_eq (a := "tuple") rfl rfl (fun _ _ e => by cases e)
theorem isi_tup_str {K : PySem.W.Frag} {xs : List D} {R : D → Prop} : gIsi K [.tup xs, .raw (.ty "str")] R = R (.bl false) := gIsi_eq (a := "tuple") rfl rfl (fun _ _ e => by cases e)
theorem isi_tup_int {K : PySem.W.Frag} {xs : List D} {R : D → Prop} : gIsi K [.tup xs, .raw (.ty "int")] R = R (.bl false) := gIsi_eq (a := "tuple") rfl rfl (fun _ _ e => by cases e)
theorem isi_tup_bl {K : PySem.W.Frag} {xs : List D} {R : D → Prop} : gIsi K [.tup xs, .raw (.ty "bool")] R = R (.bl false) := gIsi_eq (a := "tuple") rfl rfl (fun _ _ e => by cases e)
theorem isi_tup_dK {K : PySem.W.Frag} {xs : List D} {R : D → Prop} : gIsi K [.tup xs, .raw (.ty "dict")] R = R (.bl false) := gIsi_eq (a := "tuple") rfl rfl (fun _ _ e => by cases e)
theorem isi_lst_tup {K : PySem.W.Frag} {xs : List D} {R : D → Prop} : gIsi K [.lst xs, .raw (.ty "tuple")] R = R (.bl false) := gIsi_eq (a := "list") rfl rfl (fun _ _ e => by cases e)
theorem isi_lst_lst {K : PySem.W.Frag} {xs : List D} {R : D → Prop} : gIsi K [.lst xs, .raw (.ty "list")] R = R (.bl true) := gIsi_eq (a := "list") rfl rfl (fun _ _ e => by cases e)
theorem isi_lst_str {K : PySem.W.Frag} {xs : List D} {R : D → Prop} : gIsi K [.lst xs, .raw (.ty "str")] R = R (.bl false) := gIsi_eq (a := "list") rfl rfl (fun _ _ e => by cases e)
theorem isi_lst_int {K : PySem.W.Frag} {xs : List D} {R : D → Prop} : gIsi K [.lst xs, .raw (.ty "int")] R = R (.bl false) := gIsi_eq (a := "list") rfl rfl (fun _ _ e => by cases e)
theorem isi_lst_bl {K : PySem.W.Frag} {xs : List D} {R : D → Prop} : gIsi K [.lst xs, .raw (.ty "bool")] R = R (.bl false) := gIsi_eq (a := "list") rfl rfl (fun _ _ e => by cases e)
theorem isi_lst_dK {K : PySem.W.Frag} {xs : List D} {R : D → Prop} : gIsi K [.lst xs, .raw (.ty "dict")] R = R (.bl false) := gIsi_eq (a := "list") rfl rfl (fun _ _ e => by cases e)
theorem isi_str_tup {K : PySem.W.Frag} {s : Str} {R : D → Prop} : gIsi K [.str s, .raw (.ty "tuple")] R = R (.bl false) := gIsi_eq (a := "str") rfl rfl (fun _ _ e => by cases e)
theorem isi_str_lst {K : PySem.W.Frag} {s : Str} {R : D → Prop} : gIsi K [.str s, .raw (.ty "list")] R = R (.bl false) := gIsi_eq (a := "str") rfl rfl (fun _ _ e => by cases e)
theorem isi_str_str {K : PySem.W.Frag} {s : Str} {R : D → Prop} : gIsi K [.str s, .raw (.ty "str")] R = R (.bl true) := gIsi_eq (a := "str") rfl rfl (fun _ _ e => by cases e)
theorem isi_str_int {K : PySem.W.Frag} {s : Str} {R : D → Prop} : gIsi K [.str s, .raw (.ty "int")] R = R (.bl false) := gIsi_eq (a := "str") rfl rfl (fun _ _ e => by cases e)
theorem isi_str_bl {K : PySem.W.Frag} {s : Str} {R : D → Prop} : gIsi K [.str s, .raw (.ty "bool")] R = R (.bl false) := gIsi_eq (a := "str") rfl rfl (fun _ _ e => by cases e)
theorem isi_str_dK {K : PySem.W.Frag} {s : Str} {R : D → Prop} : gIsi K [.str s, .raw (.ty "dict")] R = R (.bl false) := gIsi_eq (a := "str") rfl rfl (fun _ _ e => by cases e)
theorem isi_int_tup {K : PySem.W.Frag} {i : Int} {R : D → Prop} : gIsi K [.int i, .raw (.ty "tuple")] R = R (.bl false) := gIsi_eq (a := "int") rfl rfl (fun _ _ e => by cases e)
theorem isi_int_lst {K : PySem.W.Frag} {i : Int} {R : D → Prop} : gIsi K [.int i, .raw (.ty "list")] R = R (.bl false) := gIsi_eq (a := "int") rfl rfl (fun _ _ e => by cases e)
theorem isi_int_str {K : PySem.W.Frag} {i : Int} {R : D → Prop} : gIsi K [.int i, .raw (.ty "str")] R = R (.bl false) := gIsi_eq (a := "int") rfl rfl (fun _ _ e => by cases e)
theorem isi_int_int {K : PySem.W.Frag} {i : Int} {R : D → Prop} : gIsi K [.int i, .raw (.ty "int")] R = R (.bl true) := gIsi_eq (a := "int") rfl rfl (fun _ _ e => by cases e)
theorem isi_int_bl {K : PySem.W.Frag} {i : Int} {R : D → Prop} : gIsi K [.int i, .raw (.ty "bool")] R = R (.bl false) := gIsi_eq (a := "int") rfl rfl (fun _ _ e => by cases e)
theorem isi_int_dK {K : PySem.W.Frag} {i : Int} {R : D → Prop} : gIsi K [.int i, .raw (.ty "dict")] R = R (.bl false) := gIsi_eq (a := "int") rfl rfl (fun _ _ e => by cases e)
theorem isi_bl_tup {K : PySem.W.Frag} {b : Bool} {R : D → Prop} : gIsi K [.bl b, .raw (.ty "tuple")] R = R (.bl false) := gIsi_eq (a := "bool") rfl rfl (fun _ _ e => by cases e)
theorem isi_bl_lst {K : PySem.W.Frag} {b : Bool} {R : D → Prop} : gIsi K [.bl b, .raw (.ty "list")] R = R (.bl false) := gIsi_eq (a := "bool") rfl rfl (fun _ _ e => by cases e)
theorem isi_bl_str {K : PySem.W.Frag} {b : Bool} {R : D → Prop} : gIsi K [.bl b, .raw (.ty "str")] R = R (.bl false) := gIsi_eq (a := "bool") rfl rfl (fun _ _ e => by cases e)
theorem isi_bl_int {K : PySem.W.Frag} {b : Bool} {R : D → Prop} : gIsi K [.bl b, .raw (.ty "int")] R = R (.bl true) := gIsi_eq (a := "bool") rfl rfl (fun _ _ e => by cases e)
theorem isi_bl_bl {K : PySem.W.Frag} {b : Bool} {R : D → Prop} : gIsi K [.bl b, .raw (.ty "bool")] R = R (.bl true) := gIsi_eq (a := "bool") rfl rfl (fun _ _ e => by cases e)
theorem isi_bl_dK {K : PySem.W.Frag} {b : Bool} {R : D → Prop} : gIsi K [.bl b, .raw (.ty "dict")] R = R (.bl false) := gIsi_eq (a := "bool") rfl rfl (fun _ _ e => by cases e)
theorem isi_non_tup {K : PySem.W.Frag}  {R : D → Prop} : gIsi K [.non, .raw (.ty "tuple")] R = R (.bl false) := gIsi_eq (a := "NoneType") rfl rfl (fun _ _ e => by cases e)
theorem isi_non_lst {K : PySem.W.Frag}  {R : D → Prop} : gIsi K [.non, .raw (.ty "list")] R = R (.bl false) := gIsi_eq (a := "NoneType") rfl rfl (fun _ _ e => by cases e)
theorem isi_non_str {K : PySem.W.Frag}  {R : D → Prop} : gIsi K [.non, .raw (.ty "str")] R = R (.bl false) := gIsi_eq (a := "NoneType") rfl rfl (fun _ _ e => by cases e)
theorem isi_non_int {K : PySem.W.Frag}  {R : D → Prop} : gIsi K [.non, .raw (.ty "int")] R = R (.bl false) := gIsi_eq (a := "NoneType") rfl rfl (fun _ _ e => by cases e)
theorem isi_non_bl {K : PySem.W.Frag}  {R : D → Prop} : gIsi K [.non, .raw (.ty "bool")] R = R (.bl false) := gIsi_eq (a := "NoneType") rfl rfl (fun _ _ e => by cases e)
theorem isi_non_dK {K : PySem.W.Frag}  {R : D → Prop} : gIsi K [.non, .raw (.ty "dict")] R = R (.bl false) := gIsi_eq (a := "NoneType") rfl rfl (fun _ _ e => by cases e)
theorem isi_dK_tup {K : PySem.W.Frag} {es : List (Key × D)} {R : D → Prop} : gIsi K [.dK es, .raw (.ty "tuple")] R = R (.bl false) := gIsi_eq (a := "dict") rfl rfl (fun _ _ e => by cases e)
theorem isi_dK_lst {K : PySem.W.Frag} {es : List (Key × D)} {R : D → Prop} : gIsi K [.dK es, .raw (.ty "list")] R = R (.bl false) := gIsi_eq (a := "dict") rfl rfl (fun _ _ e => by cases e)
theorem isi_dK_str {K : PySem.W.Frag} {es : List (Key × D)} {R : D → Prop} : gIsi K [.dK es, .raw (.ty "str")] R = R (.bl false) := gIsi_eq (a := "dict") rfl rfl (fun _ _ e => by cases e)
theorem isi_dK_int {K : PySem.W.Frag} {es : List (Key × D)} {R : D → Prop} : gIsi K [.dK es, .raw (.ty "int")] R = R (.bl false) := gIsi_eq (a := "dict") rfl rfl (fun _ _ e => by cases e)
theorem isi_dK_bl {K : PySem.W.Frag} {es : List (Key × D)} {R : D → Prop} : gIsi K [.dK es, .raw (.ty "bool")] R = R (.bl false) := gIsi_eq (a := "dict") rfl rfl (fun _ _ e => by cases e)
theorem isi_dK_dK {K : PySem.W.Frag} {es : List (Key × D)} {R : D → Prop} : gIsi K [.dK es, .raw (.ty "dict")] R = R (.bl true) := gIsi_eq (a := "dict") rfl rfl (fun _ _ e => by cases e)
end GK

namespace GK
open PySem PySem.Spec PyProof.Rows L2
section
variable {Z : Type} {ι : Z → D} {l : List Z} {t : D → Env → Option Env} {gb : FS} {E : DEnds} {ρ : Env}
/-- a loop over a mapped list -/
theorem forD_map (I : List Z → Env → Prop) (h0 : I l ρ) (hs : ∀ z r ρ, I (z :: r) ρ → ∀ N : Env → Prop, (∀ ρ2, I r ρ2 → N ρ2) → ∃ ρ', t (ι z) ρ = some ρ' ∧ gb { E with nx := N, ct := N, bk := E.nx } ρ') (hd : ∀ ρ, I [] ρ → E.nx ρ) : forD t gb (l.map ι) E ρ := by
  induction l generalizing ρ with
  | nil => exact hd ρ h0
  | cons z r ih => exact hs z r ρ h0 _ fun ρ2 h2 => ih h2
/-- .. with what is done -/
theorem forD_pre (I : List Z → List Z → Env → Prop) (h0 : I [] l ρ) (hs : ∀ dn z r ρ, dn ++ z :: r = l → I dn (z :: r) ρ → ∀ N : Env → Prop, (∀ ρ2, I (dn ++ [z]) r ρ2 → N ρ2) → ∃ ρ', t (ι z) ρ = some ρ' ∧ gb { E with nx := N, ct := N, bk := E.nx } ρ') (hd : ∀ ρ, I l [] ρ → E.nx ρ) : forD t gb (l.map ι) E ρ := by
  have key : ∀ (r dn : List Z) (ρ : Env), dn ++ r = l → I dn r ρ → forD t gb (r.map ι) E ρ := fun r => by
    induction r with
    | nil =>
      intro dn ρ e h
      rw [List.append_nil] at e
      subst e
      exact hd ρ h
    | cons z r ih =>
      intro dn ρ e h
      exact hs dn z r ρ e h _ fun ρ2 h2 => ih (dn ++ [z]) ρ2 (by rw [List.append_assoc]; exact e) h2
  exact key l [] ρ rfl h0
/-- .. over numbers -/
theorem forD_rng {a n : Nat} (I : Nat → Env → Prop) (h0 : I a ρ) (hs : ∀ k ρ, a ≤ k → k < a + n → I k ρ → ∀ N : Env → Prop, (∀ ρ2, I (k + 1) ρ2 → N ρ2) → ∃ ρ', t (natD k) ρ = some ρ' ∧ gb { E with nx := N, ct := N, bk := E.nx } ρ') (hd : ∀ ρ, I (a + n) ρ → E.nx ρ) : forD t gb ((List.range' a n).map natD) E ρ := by
  induction n generalizing a ρ with
  | zero => exact hd ρ h0
  | succ n ih =>
    rw [List.range'_succ, List.map_cons]
    exact hs a ρ (Nat.le_refl _) (by omega) h0 _ fun ρ2 h2 => ih h2 (fun k ρ h1 h2 h3 => hs k ρ (by omega) (by omega) h3) fun ρ h => hd ρ (by rw [show a + (n + 1) = a + 1 + n by omega]; exact h)
end
section
variable {Z : Type} {ι : Z → D} {xs : List Z} {t : D → Env → Option Env} {fc : FT} {fe : FE} {ρ : Env} {R : D → Prop}
/-- a comprehension without a test -/
theorem compD_all (g : Z → D) (hs : ∀ x ∈ xs, ∃ ρ', t (ι x) ρ = some ρ' ∧ ∀ N : D → Prop, N (g x) → fe ρ' N) (hl : xs.length ≤ sizeLine) (hR : R (.lst (xs.map g))) : compD t (fun _ R => R true) fe ρ (xs.map ι) [] R := by
  refine compD_map ι (fun x => some (g x)) (fun x hx N hN => ?_) hl (by rw [List.filterMap_eq_map']; exact hR)
  obtain ⟨ρ', e, h⟩ := hs x hx
  refine ⟨ρ', e, ?_⟩
  show (if true = true then _ else _)
  rw [if_pos rfl]
  exact h _ hN
/-- .. with a test -/
theorem compD_fil (p : Z → Bool) (g : Z → D) (hs : ∀ x ∈ xs, ∃ ρ', t (ι x) ρ = some ρ' ∧ (∀ N : Bool → Prop, N (p x) → fc ρ' N) ∧ (p x = true → ∀ N : D → Prop, N (g x) → fe ρ' N)) (hl : xs.length ≤ sizeLine) (hR : R (.lst ((xs.filter p).map g))) : compD t fc fe ρ (xs.map ι) [] R := by
  refine compD_map ι (fun x => if p x = true then some (g x) else none) (fun x hx N hN => ?_) hl ?_
  · obtain ⟨ρ', e, h1, h2⟩ := hs x hx
    refine ⟨ρ', e, h1 _ ?_⟩
    cases q : p x with
    | true =>
      rw [q, if_pos rfl] at hN
      rw [if_pos rfl]
      exact h2 q _ hN
    | false =>
      rw [q, if_neg Bool.false_ne_true] at hN
      rw [if_neg Bool.false_ne_true]
      exact hN
  · have : xs.filterMap (fun x => if p x = true then some (g x) else none) = (xs.filter p).map g := by
      clear hs hl hR
      induction xs with
      | nil => rfl
      | cons x r ih =>
        rw [List.filterMap_cons, List.filter_cons]
        cases q : p x with
        | true => simp [ih]
        | false => simp [ih]
    rw [this]; exact hR
end
theorem nodup_len {α : Type} [DecidableEq α] : ∀ {l m : List α}, l.Nodup → (∀ x ∈ l, x ∈ m) → l.length ≤ m.length
  | [], m, _, _ => Nat.zero_le _
  | x :: l, m, nd, h => by
    rw [List.nodup_cons] at nd
    have hx := h x List.mem_cons_self
    have := nodup_len (l := l) (m := m.erase x) nd.2 fun y hy => (List.mem_erase_of_ne fun e => nd.1 (by rw [← e]; exact hy)).mpr (h y (List.mem_cons_of_mem _ hy))
    have h2 := List.length_erase_of_mem hx
    have h3 := List.length_pos_of_mem hx
    rw [List.length_cons]
    omega
theorem gInD_by {α : Type} [DecidableEq α] {ι : α → D} {n : Bool} {x : α} {ys : List α} {R : D → Prop} (inj : ∀ a b, ι a = ι b → a = b) (pn : ∀ a, pnD (ι a) = true) (h1 : okD 63 (ι x) = true) (h2 : ∀ y ∈ ys, okD 63 (ι y) = true) (q1 : x ∈ ys → R (.bl (n ^^ true))) (q2 : x ∉ ys → R (.bl (n ^^ false))) : gInD n (ι x) (.lst (ys.map ι)) R :=
  gInD_go inj pn h1 h2 (by
    by_cases c : x ∈ ys
    · rw [decide_eq_true c]; exact q1 c
    · rw [decide_eq_false c]; exact q2 c)
end GK

namespace GK
open PySem PySem.Spec PyProof.Rows L2
/-! ### slices and sums of mapped lists -/
section
variable {α : Type} {f : α → D} {l a b : List α} {lo hi : Option Int} {R : D → Prop}
def cutA (l : List α) (lo hi : Option Int) : List α := (l.drop (HT.sIx l.length 0 lo)).take (HT.sIx l.length l.length hi - HT.sIx l.length 0 lo)
theorem cut_map : cutD (l.map f) lo hi = (cutA l lo hi).map f := by
  unfold cutD cutA
  rw [List.length_map, List.map_take, List.map_drop]
theorem cutA_mem {x : α} (h : x ∈ cutA l lo hi) : x ∈ l := List.mem_of_mem_drop (List.mem_of_mem_take h)
theorem cutA_len : (cutA l lo hi).length ≤ l.length := by
  unfold cutA
  rw [List.length_take, List.length_drop]
  omega
theorem cutA_to {k : Nat} : cutA l none (some (k : Int)) = l.take k := by
  unfold cutA
  rw [HT.sIx_none, HT.sIx_nat, List.drop_zero, Nat.sub_zero]
  by_cases h : k ≤ l.length
  · rw [Nat.min_eq_left h]
  · rw [Nat.min_eq_right (by omega), List.take_of_length_le (Nat.le_refl _), List.take_of_length_le (by omega)]
theorem cutA_from {k : Nat} : cutA l (some (k : Int)) none = l.drop k := by
  unfold cutA
  rw [HT.sIx_none, HT.sIx_nat]
  by_cases h : k ≤ l.length
  · rw [Nat.min_eq_left h, List.take_of_length_le (by rw [List.length_drop]; omega)]
  · rw [Nat.min_eq_right (by omega), List.drop_of_length_le (Nat.le_refl _), List.drop_of_length_le (show l.length ≤ k by omega), List.take_nil]
theorem gSlL_go (q : R (.lst ((cutA l lo hi).map f))) : gSlL (.lst (l.map f)) lo hi R := by
  show R (.lst (cutD (l.map f) lo hi))
  rw [cut_map]; exact q
theorem gSlL_take {k : Nat} (q : R (.lst ((l.take k).map f))) : gSlL (.lst (l.map f)) none (some (k : Int)) R := gSlL_go (by rw [cutA_to]; exact q)
theorem gSlL_drop {k : Nat} (q : R (.lst ((l.drop k).map f))) : gSlL (.lst (l.map f)) (some (k : Int)) none R := gSlL_go (by rw [cutA_from]; exact q)
theorem gCat_go (h : a.length + b.length ≤ sizeLine) (q : R (.lst ((a ++ b).map f))) : gCat (.lst (a.map f)) (.lst (b.map f)) R := by
  refine ⟨by rw [List.length_map, List.length_map]; exact h, ?_⟩
  rw [← List.map_append]; exact q
theorem cutA_mid {p c : Nat} (h : p + c ≤ l.length) : (cutA l (some (p : Int)) (some ((p + c : Nat) : Int))).length = c := by
  unfold cutA
  rw [HT.sIx_nat, HT.sIx_nat, List.length_take, List.length_drop]
  omega
theorem zeros (l : List α) : l.map (fun _ => D.int 0) = (List.replicate l.length (0 : Int)).map D.int := by rw [List.map_replicate]; exact List.map_const' ..
theorem map_get {i : Nat} (h : i < l.length) : (l.map f)[i]? = some (f l[i]) := by rw [List.getElem?_map, List.getElem?_eq_getElem h]; rfl
end
end GK

namespace GK
open PySem PySem.Spec PyProof.Rows L2
/-! ### operators that a class defines itself -/
section
variable {X : Cx} {k : Nat} {f C : Addr} {fd : FuncData} {ps : List Str} {ds : List Value} {dvs : List V} {sp : Sp}
theorem Sub0.env {A1 : Around} {n : Nat} {pins : List (Addr × Obj)} {σ : L2.St} {H : Hp} {s : Shared} (sb : L2.Sub X n A1) (I : Inv X pins σ H s) : Env0 X.prog X.w X.K X.mg X.base A1 X.stack s H := by
  have e := I.env0
  exact ⟨by rw [sb.fr]; exact e.frames, e.mod, e.bs, e.bsz, e.funs, e.frf, e.hok, e.bare⟩
/-- a promise that knows how large the heap is at the call -/
abbrev SpN := Nat → Sp
structure FnN (P : Program) (w : World) (K : PySem.W.Frag) (mg : Str → Option Value) (base : Heap) (k : Nat) (f : Addr) (fd : FuncData) (ps : List Str) (sp : SpN) : Prop where
  len : ∀ n vs H Q E, sp n vs H Q E → vs.length = ps.length
  run : ∀ (A1 : Around) (fr : List PySem.Env) (z : Shared) (H : Hp) (ag : Args) (us : List Value) (vs : List V) (Q : VK) (E : XK), Room k A1 → Env0 P w K mg base A1 fr z H → BindsTo z fd ag (ps.zip us) → Vals vs us →
    sp z.heap.objs.size vs H Q E → codeAny (model P w) A1 (.call (.ref f) ag) (CR CX0 fr P w H z Q E) z
theorem FnOk.toN {P : Program} {w : World} {K : PySem.W.Frag} {mg : Str → Option Value} {base : Heap} (F : FnOk P w K mg base CX0 k f fd ps sp) : FnN P w K mg base k f fd ps fun _ => sp :=
  ⟨fun _ => F.len, fun A1 fr z H ag us vs Q E => F.run A1 fr z H ag us vs Q E⟩
theorem fnN_of {P : Program} {w : World} {K : PySem.W.Frag} {mg : Str → Option Value} {base : Heap} {x qual : Str} {st : Stmt} {N : List Str} {sp : SpN} (F : Fun K x qual st f fd) (S : FnScope N ps (defScope st))
    (len : ∀ n vs H Q E, sp n vs H Q E → vs.length = ps.length)
    (body : ∀ (cdv : Value) (A1 : Around) (fr : List PySem.Env) (z : Shared) (H : Hp) (vs : List V) (Q : VK) (E : XK), Room k (A1.deeper (envOfC qual (defScope st) z.heap.objs.size f cdv)) → sp z.heap.objs.size vs H Q E →
      ∃ t, PSs (cxOf CX0 P w K mg base N qual (defScope st) f cdv A1 fr z H E).nox (defBody st) t ∧ t { nx := fun _ H' => Q .non H', rt := Q } (start N vs) H) : FnN P w K mg base (k + 1) f fd ps sp := by
  obtain ⟨oc, od, kV, doc, pm, an, cdv, ct, osl, rfl, lk, hcd⟩ := F.ex
  refine ⟨len, fun A1 fr z H ag us vs Q E room e0 bnd rv hsp => ?_⟩
  have hlen := len _ _ _ _ _ hsp
  have kin : K.In z.heap := e0.mod.kin.keeps fun b o e => (e0.bs b o e).1
  have nol : z.heap.NoLimit := e0.mod.nolimit.keeps fun b o e => (e0.bs b o e).1
  have kinds : ∀ y ∈ ps.zip us, (defScope st).names.lookup y.1 = some .local ∨ ((defScope st).names.lookup y.1 = some .cell ∧ ((cellsFrom (z.heap.objs.size + 1) (defScope st).names []).lookup y.1).isSome = true) := fun ⟨n, v⟩ hy =>
    (S.par n (List.of_mem_zip hy).1).elim .inl fun q => .inr ⟨q, PySem.W.cellsFrom_some _ _ _ (.inl q)⟩
  refine codeAny_call_function room.depth (kin _ _ lk) rfl S.co S.gen rfl (PySem.W.codeRec_of kin hcd) (bnd _ _ _ _ (wpAny_newFunctionEnv_cells S.kind kinds fun env he z1 x => ?_))
  cases he
  refine ⟨nol.keeps x.toInCall.keep, codeAny_func ?_⟩
  obtain ⟨t, ht, hq⟩ := body cdv A1 fr z H vs Q E (room.deeper _) hsp
  have ht := ht.nox
  have I := inv_start (CX := CX0) (E := E) S room.hd e0 hlen rv x
  refine wpAny_mono (ht.run [] z1 (start N vs) H _ I hq) (fun fl z2 h2 => ?_) fun e z2 h2 => h2
  cases fl with
  | ret u =>
    obtain ⟨v, σ', H', J, rv, q⟩ := h2
    exact ⟨v, H', J.os, J.bare, J.base, J.hok, rv, q⟩
  | next =>
    obtain ⟨σ', H', J, q⟩ := h2
    exact ⟨.non, H', J.os, J.bare, J.base, J.hok, rfl, q⟩
  | brk => exact (let ⟨_, _, _, q⟩ := h2; False.elim q)
  | cont => exact (let ⟨_, _, _, q⟩ := h2; False.elim q)
/-- the callee runs, from a place below -/
theorem run_subN {A1 : Around} {pins : List (Addr × Obj)} {σ : L2.St} {H : Hp} {s : Shared} {Q : VK} {us : List Value} {vs : List V} {sp : SpN} (sb : L2.Sub X k A1) (F : FnN X.prog X.w X.K X.mg X.base k f fd ps sp) (hb : Binds X.K fd ps ds) (hd : Vals dvs ds)
    (I : Inv X pins σ H s) (r : Vals vs us) (h : sp s.heap.objs.size (vs ++ dvs) H Q fun _ _ _ => False) : wpAny (model X.prog X.w) A1 (call (.ref f) us) (EP X pins σ Q) X.xe s := by
  have r2 : Vals (vs ++ dvs) (us ++ ds) := r.append hd
  have hl : (us ++ ds).length = ps.length := by rw [← r2.length]; exact F.len _ _ _ _ _ h
  refine wpAny_call (codeAny_mono (F.run A1 X.stack s H ⟨us, []⟩ (us ++ ds) (vs ++ dvs) Q _ sb.room (Sub0.env sb I) (hb s us I.kIn hl) r2 h) fun r s' hq => ?_)
  cases r with
  | error e => exact pass0 pins σ H s e s' I hq
  | ok fl =>
    cases fl with
    | ret u => exact I.after hq
    | next => exact False.elim hq
    | brk => exact False.elim hq
    | cont => exact False.elim hq
theorem run_sub {A1 : Around} {pins : List (Addr × Obj)} {σ : L2.St} {H : Hp} {s : Shared} {Q : VK} {us : List Value} {vs : List V} (sb : L2.Sub X k A1) (F : FnOk X.prog X.w X.K X.mg X.base CX0 k f fd ps sp) (hb : Binds X.K fd ps ds) (hd : Vals dvs ds)
    (I : Inv X pins σ H s) (r : Vals vs us) (h : sp (vs ++ dvs) H Q fun _ _ _ => False) : wpAny (model X.prog X.w) A1 (call (.ref f) us) (EP X pins σ Q) X.xe s := run_subN sb (FnOk.toN F) hb hd I r h
end
section
variable {X : Cx} {k : Nat} {f C : Addr} {fd : FuncData} {ps : List Str} {a b : Expr} {pos : Pos} {sp : Sp} {op : Operator}
theorem relV_ni {v : V} : ¬ L2.RelV v .notImplemented := fun h => by
  cases v <;> first | (cases h; done) | (obtain ⟨_, h⟩ := h; cases h)
theorem cmpBack {pins : List (Addr × Obj)} {σ : L2.St} {H' : Hp} {s' : Shared} {Q : VK} {v : V} {u : Value} (I : Inv X pins σ H' s') (r : L2.RelV v u) (q : Q v H') : PySem.W.CmpBack (EP X pins σ Q) u s' := by
  have h : EP X pins σ Q u s' := ⟨v, H', I, r, q⟩
  cases u <;> first | exact h | exact absurd r relV_ni
/-- an instance of the class -/
def isIns (C : Addr) (x : V) (H : Hp) : Prop := ∃ a dx fs, x = .ref a ∧ H a = some (.ins C dx fs)
theorem isIns.at_ {pins : List (Addr × Obj)} {σ : L2.St} {H : Hp} {s : Shared} {a dx : Addr} {fs : List (Str × V)} (I : Inv X pins σ H s) (h : H a = some (.ins C dx fs)) : ∃ ox od, PySem.W.InstAt s.heap a ox C od := by
  obtain ⟨mA, J, _⟩ := ins_get I.hok h
  obtain ⟨od, J, _⟩ := J.look
  exact ⟨_, _, J⟩
/-- x op y, both of the class -/
theorem op_ownBin (F : FnOk X.prog X.w X.K X.mg X.base CX0 k f fd ps sp) (hr : Room k X.A) (hb : Binds X.K fd ps []) (hs : PySem.W.findIn X.K (.ref C) (PySem.dunder op.info.2) = some (some (.ref f))) (hf : PySem.W.isFn X.K (.ref f) = true) (sf : PySem.W.selfFirst X.K C = true) :
    OpR X (binaryOp op) (fun x y H Q => isIns C x H ∧ isIns C y H ∧ sp [x, y] H Q fun _ _ _ => False) := by
  intro pins s σ H x y v u Q I rx ry ⟨⟨a, dx, fs, ex, ha⟩, ⟨b, dy, gs, ey, hb'⟩, h⟩
  subst ex
  subst ey
  cases rx
  cases ry
  obtain ⟨ox, od, J⟩ := isIns.at_ I ha
  obtain ⟨oy, od', J'⟩ := isIns.at_ I hb'
  obtain ⟨m, hF⟩ := I.fr
  refine PySem.W.binop_K hF I.ok.mod.kin J J'.type sf hs hf ?_
  refine wpAny_mono (run_sub (us := [.ref a, .ref b]) (vs := [.ref a, .ref b]) ⟨hr, rfl⟩ F hb .nil I (.cons rfl (.cons rfl .nil)) h) (fun r s' z => ?_) fun _ _ x => x
  obtain ⟨v, H', I', rv, q⟩ := z
  exact cmpBack I' rv q
/-- x == y, x != y, both of the class -/
theorem op_ownCmp {op : CmpOp} (F : FnOk X.prog X.w X.K X.mg X.base CX0 k f fd ps sp) (hr : Room k X.A) (hb : Binds X.K fd ps []) (hs : PySem.W.findIn X.K (.ref C) (cmpInfo op).2.1 = some (some (.ref f))) (hf : PySem.W.isFn X.K (.ref f) = true) (hop : compareOp op = richCompare op) :
    OpR X (compareOp op) (fun x y H Q => isIns C x H ∧ isIns C y H ∧ sp [x, y] H Q fun _ _ _ => False) := by
  intro pins s σ H x y v u Q I rx ry ⟨⟨a, dx, fs, ex, ha⟩, ⟨b, dy, gs, ey, hb'⟩, h⟩
  subst ex
  subst ey
  cases rx
  cases ry
  obtain ⟨ox, od, J⟩ := isIns.at_ I ha
  obtain ⟨oy, od', J'⟩ := isIns.at_ I hb'
  obtain ⟨m, hF⟩ := I.fr
  rw [hop]
  refine PySem.W.cmp_K (tb := .ref C) hr.units0 hF I.ok.mod.kin J J'.type (by simp [PySem.W.notFirst]) hs hf ?_
  refine wpAny_mono (run_sub (us := [.ref a, .ref b]) (vs := [.ref a, .ref b]) ⟨hr, rfl⟩ F hb .nil I (.cons rfl (.cons rfl .nil)) h) (fun r s' z => ?_) fun _ _ x => x
  obtain ⟨v, H', I', rv, q⟩ := z
  exact cmpBack I' rv q
/-- y in x, x of the class -/
theorem op_ownIn (F : FnOk X.prog X.w X.K X.mg X.base CX0 k f fd ps sp) (hr : Room k X.A) (hb : Binds X.K fd ps []) (hs : PySem.W.findIn X.K (.ref C) "__contains__" = some (some (.ref f))) (hf : PySem.W.isFn X.K (.ref f) = true) :
    OpR X (compareOp .In) (fun y x H Q => isIns C x H ∧ sp [x, y] H (fun r H' => ∃ b, r = .bl b ∧ Q (.bl b) H') fun _ _ _ => False) := by
  intro pins s σ H y x u v Q I ry rx ⟨⟨a, dx, fs, ex, ha⟩, h⟩
  subst ex
  cases rx
  obtain ⟨ox, od, J⟩ := isIns.at_ I ha
  obtain ⟨m, hF⟩ := I.fr
  refine PySem.W.in_K hF I.ok.mod.kin J hs hf ?_
  refine wpAny_mono (run_sub (us := [.ref a, u]) (vs := [.ref a, y]) ⟨hr, rfl⟩ F hb .nil I (.cons rfl (.cons ry .nil)) h) (fun r s' z => ?_) fun _ _ x => x
  obtain ⟨w, H', I', rv, ⟨b, e, q⟩⟩ := z
  subst e
  cases rv
  exact wpAny_truthy_bool ⟨.bl b, H', I', rfl, q⟩
theorem op_ownNotIn (F : FnOk X.prog X.w X.K X.mg X.base CX0 k f fd ps sp) (hr : Room k X.A) (hb : Binds X.K fd ps []) (hs : PySem.W.findIn X.K (.ref C) "__contains__" = some (some (.ref f))) (hf : PySem.W.isFn X.K (.ref f) = true) :
    OpR X (compareOp .NotIn) (fun y x H Q => isIns C x H ∧ sp [x, y] H (fun r H' => ∃ b, r = .bl b ∧ Q (.bl (!b)) H') fun _ _ _ => False) := by
  intro pins s σ H y x u v Q I ry rx ⟨⟨a, dx, fs, ex, ha⟩, h⟩
  subst ex
  cases rx
  obtain ⟨ox, od, J⟩ := isIns.at_ I ha
  obtain ⟨m, hF⟩ := I.fr
  refine PySem.W.notIn_K hF I.ok.mod.kin J hs hf ?_
  refine wpAny_mono (run_sub (us := [.ref a, u]) (vs := [.ref a, y]) ⟨hr, rfl⟩ F hb .nil I (.cons rfl (.cons ry .nil)) h) (fun r s' z => ?_) fun _ _ x => x
  obtain ⟨w, H', I', rv, ⟨b, e, q⟩⟩ := z
  subst e
  cases rv
  exact wpAny_truthy_bool ⟨.bl (!b), H', I', rfl, q⟩
/-- len(x) -/
theorem call_ownLen (F : FnOk X.prog X.w X.K X.mg X.base CX0 k f fd ps sp) (hr : Room (k + 1) X.A) (hb : Binds X.K fd ps []) (hs : PySem.W.findIn X.K (.ref C) "__len__" = some (some (.ref f))) (hf : PySem.W.isFn X.K (.ref f) = true) :
    CallR X (.builtin "len") (fun xs H Q => ∃ x, xs = [x] ∧ isIns C x H ∧ sp [x] H (fun r H' => ∃ n : Int, r = .int n ∧ 0 ≤ n ∧ n < 2 ^ 63 ∧ Q (.int n) H') fun _ _ _ => False) := by
  intro pins s σ H xs us Q I rv ⟨x, ex, ⟨a, dx, fs, ea, ha⟩, h⟩
  subst ex
  subst ea
  obtain ⟨u, rfl, ru⟩ := rv.one
  cases ru
  obtain ⟨ox, od, J⟩ := isIns.at_ I ha
  obtain ⟨m, hF⟩ := I.fr
  refine PySem.W.len_K hF I.ok.mod.kin J hs hf ?_
  refine wpAny_mono (run_sub (us := [.ref a]) (vs := [.ref a]) (L2.Sub.in1 ⟨hr, rfl⟩) F hb .nil I (.cons rfl .nil) h) (fun r s' z => ?_) fun _ _ x => x
  obtain ⟨w, H', I', rv, ⟨n, e, h0, h1, q⟩⟩ := z
  subst e
  obtain ⟨t, rfl⟩ := rv
  refine ⟨⟨h0, h1⟩, ?_⟩
  exact ⟨.int n, H', I'.kept fun b o e => e, ⟨_, rfl⟩, q⟩

end
/-! iteration: __iter__ gives an iterator over a list or a tuple that the object holds -/
abbrev itTup (t : Addr) (i : Nat) : Obj := { cls := .type "tuple_iterator", data := .fields #[.ref t, .int i 0] }
def ItT (t it : Addr) (i : Nat) : HO := .ext fun h => h.get? it = some (itTup t i)
theorem itT_ok {P : Program} {w : World} {H : Hp} {h : Heap} {t it : Addr} {i : Nat} (e : h.get? it = some (itTup t i)) : ObjOk P w H h it (ItT t it i) := ⟨e, ⟨_, e⟩, fun h1 h2 q k => k _ q⟩
/-- iter(t), t a tuple -/
def rIterT (K : PySem.W.Frag) (n : Nat) : List V → Hp → VK → Prop := fun xs H Q => ∃ (l : Addr) (zs : List V), xs = [.ref l] ∧ SqT K H l zs ∧ ∀ it, H it = none → n ≤ it → Q (.ref it) (upd H it (ItT l it 0))
section
variable {X : Cx}
theorem call_iterT : CallR X (.builtin "iter") (rIterT X.K X.s_0.heap.objs.size) := by
  intro pins s σ H xs us Q I r h
  obtain ⟨l, zs, rfl, hq, q⟩ := h
  obtain ⟨u, rfl, ru⟩ := r.one
  cases ru
  obtain ⟨its, rv, pl, hz⟩ := I.tuple hq
  refine Calls.call_function_entry (by decide +kernel) (by decide +kernel) PySem.W.kdk_entry_iter (PySem.W.kdk_args_iter _) ?_
  unfold Builtin.«iter»
  refine wpAny_bind (m := someArgs "iter" 1 2 _) (wpAny_of_eq (a := [Value.ref l]) (by first | rfl | kernel_rfl!) ?_)
  show wpAny _ _ (pyIter (.ref l) >>= _) _ _ _
  refine wpAny_bind (wpAny_pyIter_tuple (show s.heap.IsTuple l its.toArray from pl) (wpAny_pure ⟨_, rfl, ?_⟩))
  exact ⟨.ref s.heap.objs.size, _, I.laid (t' := s.toks) (fun b u e => Heap.get?_push_of_some _ e) (Nat.le_refl _) (itT_ok (Heap.get?_push_size _ rfl)), rfl, q _ (I.hok.fresh (Nat.le_refl _)) I.sz⟩
end
/-- what __iter__ promises -/
def spItL (K : PySem.W.Frag) (C : Addr) (fld : Str) : SpN := fun n vs H Q _ => ∃ a dx fs l zs, vs = [.ref a] ∧ H a = some (.ins C dx fs) ∧ fs.lookup fld = some (.ref l) ∧ SqL K H l zs ∧ ∀ it, H it = none → n ≤ it → Q (.ref it) (upd H it (ItO l it 0))
def spItT (K : PySem.W.Frag) (C : Addr) (fld : Str) : SpN := fun n vs H Q _ => ∃ a dx fs l zs, vs = [.ref a] ∧ H a = some (.ins C dx fs) ∧ fs.lookup fld = some (.ref l) ∧ SqT K H l zs ∧ ∀ it, H it = none → n ≤ it → Q (.ref it) (upd H it (ItT l it 0))
section
variable {X : Cx} {k : Nat} {f C : Addr} {fd : FuncData} {ps : List Str} {e tg : Expr} {te : TE} {fld : Str}
theorem pi_ownL (he : PE X e te) (F : FnN X.prog X.w X.K X.mg X.base k f fd ps (spItL X.K C fld)) (hr : Room k X.A) (hb : Binds X.K fd ps []) (hs : PySem.W.findIn X.K (.ref C) "__iter__" = some (some (.ref f))) (hf : PySem.W.isFn X.K (.ref f) = true) :
    PI X tg e (fun σ H R => te σ H fun x H1 => ∃ a dx fs l zs, x = .ref a ∧ H1 a = some (.ins C dx fs) ∧ fs.lookup fld = some (.ref l) ∧ SqL X.K H1 l zs ∧ R (Itl X.K l) H1) := by
  refine ⟨fun pins s σ H R I h => ?_⟩
  refine thn (he.run pins s σ H _ I h) fun v s1 ⟨x, H1, I1, rx, a, dx, fs, l, zs, ex, ha, hl, hq, q⟩ => ?_
  subst ex
  cases rx
  obtain ⟨ox, od, J⟩ := isIns.at_ I1 ha
  obtain ⟨m, hF⟩ := I1.fr
  refine PySem.W.owit_iter hF I1.ok.mod.kin J hs hf (wpAny_mono (run_subN (Q := fun v H' => ∃ it, v = .ref it ∧ H1 it = none ∧ s1.heap.objs.size ≤ it ∧ H' = upd H1 it (ItO l it 0)) (us := [.ref a]) (vs := [.ref a]) ⟨hr, rfl⟩ F hb .nil I1 (.cons rfl .nil)
    ⟨a, dx, fs, l, zs, rfl, ha, hl, hq, fun it h0 h1 => ⟨it, rfl, h0, h1, rfl⟩⟩) (fun u s2 z => ?_) fun _ _ x => x)
  obtain ⟨v, H', I2, rv, it, ev, h0, h1, eH⟩ := z
  subst ev
  subst eH
  cases rv
  have eo := itO_get I2 upd_same
  have tn : s2.heap.IsListIter it l 0 := ⟨_, eo, rfl, rfl⟩
  unfold PySem.W.OwitIt
  refine wpAny_specialOf (T := "list_iterator") ⟨_, eo, rfl⟩ slot_listiter_next.lookup ?_
  refine ⟨it, [it], _, _, H1, rfl, ?_, turn_list l it, tn, fun b hb => ?_, q⟩
  · have := ItX.inv_drop I2 (a := it) (φ := _) upd_same
    rw [ItX.dropH_upd h0] at this
    exact this
  · have eb : b = it := by simpa using hb
    rw [eb]
    have := ItX.inv_fp I2 upd_same (Nat.le_trans I1.sz h1)
    rw [ItX.dropH_upd h0] at this
    exact this
theorem itT_get {pins : List (Addr × Obj)} {σ : L2.St} {H : Hp} {s : Shared} {it l : Addr} {i : Nat} (I : Inv X pins σ H s) (e : H it = some (ItT l it i)) : s.heap.get? it = some (itTup l i) := (I.hok it _ e).1
theorem pi_ownT (he : PE X e te) (F : FnN X.prog X.w X.K X.mg X.base k f fd ps (spItT X.K C fld)) (hr : Room k X.A) (hb : Binds X.K fd ps []) (hs : PySem.W.findIn X.K (.ref C) "__iter__" = some (some (.ref f))) (hf : PySem.W.isFn X.K (.ref f) = true) :
    PI X tg e (fun σ H R => te σ H fun x H1 => ∃ a dx fs l zs, x = .ref a ∧ H1 a = some (.ins C dx fs) ∧ fs.lookup fld = some (.ref l) ∧ SqT X.K H1 l zs ∧ R (Itt X.K l) H1) := by
  refine ⟨fun pins s σ H R I h => ?_⟩
  refine thn (he.run pins s σ H _ I h) fun v s1 ⟨x, H1, I1, rx, a, dx, fs, l, zs, ex, ha, hl, hq, q⟩ => ?_
  subst ex
  cases rx
  obtain ⟨ox, od, J⟩ := isIns.at_ I1 ha
  obtain ⟨m, hF⟩ := I1.fr
  refine PySem.W.owit_iter hF I1.ok.mod.kin J hs hf (wpAny_mono (run_subN (Q := fun v H' => ∃ it, v = .ref it ∧ H1 it = none ∧ s1.heap.objs.size ≤ it ∧ H' = upd H1 it (ItT l it 0)) (us := [.ref a]) (vs := [.ref a]) ⟨hr, rfl⟩ F hb .nil I1 (.cons rfl .nil)
    ⟨a, dx, fs, l, zs, rfl, ha, hl, hq, fun it h0 h1 => ⟨it, rfl, h0, h1, rfl⟩⟩) (fun u s2 z => ?_) fun _ _ x => x)
  obtain ⟨v, H', I2, rv, it, ev, h0, h1, eH⟩ := z
  subst ev
  subst eH
  cases rv
  have eo := itT_get I2 upd_same
  have tn : s2.heap.IsTupleIter it l 0 := ⟨_, eo, rfl, rfl⟩
  unfold PySem.W.OwitIt
  refine wpAny_specialOf (T := "tuple_iterator") ⟨_, eo, rfl⟩ PySem.F.slot_tuple_iterator_next.lookup ?_
  refine ⟨it, [it], _, _, H1, rfl, ?_, turn_tuple l it, tn, fun b hb => ?_, q⟩
  · have := ItX.inv_drop I2 (a := it) (φ := _) upd_same
    rw [ItX.dropH_upd h0] at this
    exact this
  · have eb : b = it := by simpa using hb
    rw [eb]
    have := ItX.inv_fp I2 upd_same (Nat.le_trans I1.sz h1)
    rw [ItX.dropH_upd h0] at this
    exact this
end
/-! ### over data -/
def isObj (C : Addr) : D → Prop
  | .obj C' _ => C' = C
  | _ => False
theorem isObj.inv {C : Addr} : ∀ {d : D}, isObj C d → ∃ es, d = .obj C es
  | .obj C' es, h => ⟨es, by rw [show C' = C from h]⟩
  | .non, h | .bl _, h | .int _, h | .str _, h | .raw _, h | .kp _, h | .tup _, h | .lst _, h | .dK _, h | .dT _, h => h.elim
theorem dflt_nil {K : PySem.W.Frag} {dvs : List V} {ds : List Value} (hd : Vals dvs ds) (h : Dflt K dvs []) : dvs = [] ∧ ds = [] := by
  have := h noH
  cases this
  cases hd
  exact ⟨rfl, rfl⟩
section
variable {X : Cx} {B : List Addr} {k k' : Nat} {C : Addr} {ps : List Str} {pos p apos : Pos} {a b e tg : Expr} {m : Mode} {f1 f2 fe : FE} {W : BSpec} {mt fld : Str}
theorem tD_own2 {σ : L2.St} {H : Hp} {Q : VK} (h : tD X.K B m (fun ρ R => f1 ρ fun x => f2 ρ fun y => isObj C x ∧ isObj C y ∧ W B [x, y] R) σ H Q) :
    tOp (fun x y H Q => isIns C x H ∧ isIns C y H ∧ spD X.K m W [x, y] H Q fun _ _ _ => False) (tD X.K B (.own 0) f1) (tD X.K B (.own 0) f2) σ H Q := by
  obtain ⟨F, ρ, fp, R, S, hf, kk⟩ := h
  refine ⟨F, ρ, fp, _, S, hf, fun F1 H1 v x g1 s1 hv o1 n1 hR => ?_⟩
  refine ⟨F1, ρ, fp, _, S.step s1 (fun a ha => by cases ha), hR, fun F2 H2 w y g2 s2 hw o2 n2 ⟨hx, hy, hW⟩ => ?_⟩
  obtain ⟨es, rfl⟩ := hx.inv
  obtain ⟨gs, rfl⟩ := hy.inv
  have hx2 : GK.R X.K F2 v (.obj C es) := hv.1.mono s2.fs
  have hy2 : GK.R X.K F2 w (.obj C gs) := hw.1
  obtain ⟨a1, d1, l1, ev, ea, _, _⟩ := hx2.objI
  obtain ⟨a2, d2, l2, ew, eb, _, _⟩ := hy2.objI
  refine ⟨⟨a1, d1, l1, ev, ins_of s2.wf (s2.wf.sub _ _ ea)⟩, ⟨a2, d2, l2, ew, ins_of s2.wf (s2.wf.sub _ _ eb)⟩, ?_⟩
  exact call_all s2.wf (.cons hx2 (.cons hy2 .nil)) hW ((kk.after s1 (A1 := []) fun a ha => (by cases ha)).after s2 (A1 := []) fun a ha => (by cases ha))
theorem de_ownBin {op : Operator} (c : CalM X.prog X.w X.K X.mg X.base C mt k ps m [] W) (sf : PySem.W.selfFirst X.K C = true) (hr : Room k' X.A) (ha : DE X B a (.own 0) f1) (hb : DE X B b (.own 0) f2) (hk : k ≤ k' := by decide) (hmt : PySem.dunder op.info.2 = mt := by decide) :
    DE X B (.BinOp a op b pos) m (fun ρ R => f1 ρ fun x => f2 ρ fun y => isObj C x ∧ isObj C y ∧ W B [x, y] R) := by
  obtain ⟨f, fd, ds, dvs, F, hm, hbd, hd, hdd⟩ := c.ex
  obtain ⟨rfl, rfl⟩ := dflt_nil hd hdd
  exact PE.imp (pe_op (op_ownBin F (hr.mono hk) hbd (by rw [hmt]; exact hm.at_) hm.fn sf) ha hb) fun σ H Q q => tD_own2 q
theorem de_ownCmp {op : CmpOp} (c : CalM X.prog X.w X.K X.mg X.base C mt k ps m [] W) (hr : Room k' X.A) (ha : DE X B a (.own 0) f1) (hb : DE X B b (.own 0) f2) (hk : k ≤ k' := by decide) (hmt : (cmpInfo op).2.1 = mt := by decide) (hop : compareOp op = richCompare op := by rfl) (hbm : behindInMarks op b = false := by rfl) :
    DE X B (.Compare a [op] [b] pos) m (fun ρ R => f1 ρ fun x => f2 ρ fun y => isObj C x ∧ isObj C y ∧ W B [x, y] R) := by
  obtain ⟨f, fd, ds, dvs, F, hm, hbd, hd, hdd⟩ := c.ex
  obtain ⟨rfl, rfl⟩ := dflt_nil hd hdd
  exact PE.imp (pe_cmpR (op_ownCmp F (hr.mono hk) hbd (by rw [hmt]; exact hm.at_) hm.fn hop) ha hb hbm) fun σ H Q q => tD_own2 q
theorem dt_ownCmp {op : CmpOp} (c : CalM X.prog X.w X.K X.mg X.base C mt k ps m [] W) (hr : Room k' X.A) (ha : DE X B a (.own 0) f1) (hb : DE X B b (.own 0) f2) (hk : k ≤ k' := by decide) (hmt : (cmpInfo op).2.1 = mt := by decide) (hop : compareOp op = richCompare op := by rfl) (hbm : behindInMarks op b = false := by rfl) :
    DT X B (.Compare a [op] [b] pos) (fBool fun ρ R => f1 ρ fun x => f2 ρ fun y => isObj C x ∧ isObj C y ∧ W B [x, y] R) := by
  obtain ⟨f, fd, ds, dvs, F, hm, hbd, hd, hdd⟩ := c.ex
  obtain ⟨rfl, rfl⟩ := dflt_nil hd hdd
  exact PT.imp (pt_cmpR (op_ownCmp F (hr.mono hk) hbd (by rw [hmt]; exact hm.at_) hm.fn hop) ha hb hbm) fun σ H Q q => tD_own2 (tD_bool q)
theorem tD_ownIn {n : Bool} {σ : L2.St} {H : Hp} {Q : VK} (h : tD X.K B m (fun ρ R => f1 ρ fun y => f2 ρ fun x => isObj C x ∧ W B [x, y] fun d => ∃ b, d = .bl b ∧ R (.bl (n ^^ b))) σ H Q) :
    tOp (fun y x H Q => isIns C x H ∧ spD X.K (.own 0) W [x, y] H (fun r H' => ∃ b, r = .bl b ∧ Q (.bl (n ^^ b)) H') fun _ _ _ => False) (tD X.K B (.own 0) f1) (tD X.K B (.own 0) f2) σ H Q := by
  obtain ⟨F, ρ, fp, R, S, hf, kk⟩ := h
  refine ⟨F, ρ, fp, _, S, hf, fun F1 H1 v y g1 s1 hv o1 n1 hR => ?_⟩
  refine ⟨F1, ρ, fp, _, S.step s1 (fun a ha => by cases ha), hR, fun F2 H2 w x g2 s2 hw o2 n2 ⟨hx, hW⟩ => ?_⟩
  obtain ⟨es, rfl⟩ := hx.inv
  have hy2 : GK.R X.K F2 v y := hv.1.mono s2.fs
  have hx2 : GK.R X.K F2 w (.obj C es) := hw.1
  obtain ⟨a2, d2, l2, ew, eb, _, _⟩ := hx2.objI
  refine ⟨⟨a2, d2, l2, ew, ins_of s2.wf (s2.wf.sub _ _ eb)⟩, ?_⟩
  have k2 := (kk.after s1 (A1 := []) fun a ha => (by cases ha)).after s2 (A1 := []) fun a ha => (by cases ha)
  refine call_all (A := []) s2.wf (.cons hx2 (.cons hy2 .nil)) hW fun F3 H3 v3 d3 f3 s3 hv3 o3 n3 ⟨b, ed, hb⟩ => ?_
  subst ed
  obtain ⟨rfl, _⟩ := hv3.bl
  exact ⟨b, rfl, (k2.after s3 (A1 := []) fun a ha => (by cases ha)).bl s3.wf hb⟩
theorem de_ownIn (c : CalM X.prog X.w X.K X.mg X.base C "__contains__" k ps (.own 0) [] W) (hr : Room k' X.A) (ha : DE X B a (.own 0) f1) (hb : DE X B b (.own 0) f2) (hk : k ≤ k' := by decide) (hbm : behindInMarks .In b = false := by rfl) :
    DE X B (.Compare a [.In] [b] pos) m (fun ρ R => f1 ρ fun y => f2 ρ fun x => isObj C x ∧ W B [x, y] fun d => ∃ b, d = .bl b ∧ R (.bl (false ^^ b))) := by
  obtain ⟨f, fd, ds, dvs, F, hm, hbd, hd, hdd⟩ := c.ex
  obtain ⟨rfl, rfl⟩ := dflt_nil hd hdd
  refine PE.imp (pe_cmpR (op_ownIn F (hr.mono hk) hbd hm.at_ hm.fn) ha hb hbm) fun σ H Q q => ?_
  have := tD_ownIn q
  simp only [Bool.false_xor] at this
  exact this
theorem dt_ownIn (c : CalM X.prog X.w X.K X.mg X.base C "__contains__" k ps (.own 0) [] W) (hr : Room k' X.A) (ha : DE X B a (.own 0) f1) (hb : DE X B b (.own 0) f2) (hk : k ≤ k' := by decide) (hbm : behindInMarks .In b = false := by rfl) :
    DT X B (.Compare a [.In] [b] pos) (fBool fun ρ R => f1 ρ fun y => f2 ρ fun x => isObj C x ∧ W B [x, y] fun d => ∃ b, d = .bl b ∧ R (.bl (false ^^ b))) := by
  obtain ⟨f, fd, ds, dvs, F, hm, hbd, hd, hdd⟩ := c.ex
  obtain ⟨rfl, rfl⟩ := dflt_nil hd hdd
  refine PT.imp (pt_cmpR (op_ownIn F (hr.mono hk) hbd hm.at_ hm.fn) ha hb hbm) fun σ H Q q => ?_
  have := tD_ownIn (tD_bool (m := .rd) q)
  simp only [Bool.false_xor] at this
  exact this
theorem de_ownNotin (c : CalM X.prog X.w X.K X.mg X.base C "__contains__" k ps (.own 0) [] W) (hr : Room k' X.A) (ha : DE X B a (.own 0) f1) (hb : DE X B b (.own 0) f2) (hk : k ≤ k' := by decide) (hbm : behindInMarks .NotIn b = false := by rfl) :
    DE X B (.Compare a [.NotIn] [b] pos) m (fun ρ R => f1 ρ fun y => f2 ρ fun x => isObj C x ∧ W B [x, y] fun d => ∃ b, d = .bl b ∧ R (.bl (true ^^ b))) := by
  obtain ⟨f, fd, ds, dvs, F, hm, hbd, hd, hdd⟩ := c.ex
  obtain ⟨rfl, rfl⟩ := dflt_nil hd hdd
  refine PE.imp (pe_cmpR (op_ownNotIn F (hr.mono hk) hbd hm.at_ hm.fn) ha hb hbm) fun σ H Q q => ?_
  have := tD_ownIn q
  simp only [Bool.true_xor] at this
  exact this
theorem dt_ownNotin (c : CalM X.prog X.w X.K X.mg X.base C "__contains__" k ps (.own 0) [] W) (hr : Room k' X.A) (ha : DE X B a (.own 0) f1) (hb : DE X B b (.own 0) f2) (hk : k ≤ k' := by decide) (hbm : behindInMarks .NotIn b = false := by rfl) :
    DT X B (.Compare a [.NotIn] [b] pos) (fBool fun ρ R => f1 ρ fun y => f2 ρ fun x => isObj C x ∧ W B [x, y] fun d => ∃ b, d = .bl b ∧ R (.bl (true ^^ b))) := by
  obtain ⟨f, fd, ds, dvs, F, hm, hbd, hd, hdd⟩ := c.ex
  obtain ⟨rfl, rfl⟩ := dflt_nil hd hdd
  refine PT.imp (pt_cmpR (op_ownNotIn F (hr.mono hk) hbd hm.at_ hm.fn) ha hb hbm) fun σ H Q q => ?_
  have := tD_ownIn (tD_bool (m := .rd) q)
  simp only [Bool.true_xor] at this
  exact this
theorem de_ownLen (c : CalM X.prog X.w X.K X.mg X.base C "__len__" k ps (.own 0) [] W) (hr : Room k' X.A) (hz : X.mg "len" = none) (ha : DE X B e (.own 0) f1) (hk : k + 1 ≤ k' := by decide) (hg : Gl X "len" := by rfl) (he : starEach [e] X.env = (false, eval e X.env) :: starEach [] X.env := by rfl) (hpl : (backTo pos (starEach [] X.env)).any (·.1) = false := by rfl) :
    DE X B (.Call (.Name "len" p) [e] [] pos) m (fun ρ R => f1 ρ fun x => isObj C x ∧ W B [x] fun d => ∃ n : Int, d = .int n ∧ 0 ≤ n ∧ n < 2 ^ 63 ∧ R (.int n)) := by
  obtain ⟨f, fd, ds, dvs, F, hm, hbd, hd, hdd⟩ := c.ex
  obtain ⟨rfl, rfl⟩ := dflt_nil hd hdd
  refine PE.imp (pe_callB (call_ownLen F (hr.mono hk) hbd hm.at_ hm.fn) hg hz PySem.boot_len (da_cons ha da_nil he) (by decide) (by decide) he hpl) fun σ H Q ⟨F, ρ, fp, R, S, hf, kk⟩ => ?_
  refine ⟨F, ρ, fp, fun xs => ∃ x, xs = [x] ∧ isObj C x ∧ W B [x] fun d => ∃ n : Int, d = .int n ∧ 0 ≤ n ∧ n < 2 ^ 63 ∧ R (.int n), S, ?_, fun F1 H1 vs xs fp1 s1 hv o1 n1 ⟨x, ex, hx, hW⟩ => ?_⟩
  · show f1 ρ fun x => ∃ y, [x] = [y] ∧ isObj C y ∧ _
    have : (fun x => ∃ y, [x] = [y] ∧ isObj C y ∧ W B [y] fun d => ∃ n : Int, d = .int n ∧ 0 ≤ n ∧ n < 2 ^ 63 ∧ R (.int n)) = fun x => isObj C x ∧ W B [x] fun d => ∃ n : Int, d = .int n ∧ 0 ≤ n ∧ n < 2 ^ 63 ∧ R (.int n) := by
      funext x
      refine propext ⟨fun ⟨y, e, h⟩ => ?_, fun h => ⟨x, rfl, h⟩⟩
      cases e
      exact h
    rw [this]
    exact hf
  subst ex
  obtain ⟨v, rfl, hv1⟩ := hv.one
  obtain ⟨es, rfl⟩ := hx.inv
  have hx2 : GK.R X.K F1 v (.obj C es) := hv1.1
  obtain ⟨a2, d2, l2, ew, eb, _, _⟩ := hx2.objI
  refine ⟨v, rfl, ⟨a2, d2, l2, ew, ins_of s1.wf (s1.wf.sub _ _ eb)⟩, ?_⟩
  have k2 := kk.after s1 (A1 := []) fun a ha => (by cases ha)
  refine call_all (A := []) s1.wf (.cons hx2 .nil) hW fun F3 H3 v3 d3 f3 s3 hv3 o3 n3 ⟨n, ed, h0, h1, hb⟩ => ?_
  subst ed
  obtain ⟨rfl, _⟩ := hv3.int
  exact ⟨n, rfl, h0, h1, (k2.after s3 (A1 := []) fun a ha => (by cases ha)).int s3.wf hb⟩
/-! iteration -/
/-- a class's __iter__ -/
structure CalIL (P : Program) (w : World) (K : PySem.W.Frag) (mg : Str → Option Value) (base : Heap) (C : Addr) (k : Nat) (fld : Str) : Prop where
  ex : ∃ (f : Addr) (fd : FuncData), FnN P w K mg base k f fd ["self"] (spItL K C fld) ∧ Meth K C "__iter__" f ∧ Binds K fd ["self"] []
structure CalIT (P : Program) (w : World) (K : PySem.W.Frag) (mg : Str → Option Value) (base : Heap) (C : Addr) (k : Nat) (fld : Str) : Prop where
  ex : ∃ (f : Addr) (fd : FuncData), FnN P w K mg base k f fd ["self"] (spItT K C fld) ∧ Meth K C "__iter__" f ∧ Binds K fd ["self"] []
def ownL (C : Addr) (fld : Str) (R : List D → Prop) : D → Prop
  | .obj C' es => C' = C ∧ ∃ xs, es.lookup fld = some (.lst xs) ∧ R xs
  | _ => False
def ownT (C : Addr) (fld : Str) (R : List D → Prop) : D → Prop
  | .obj C' es => C' = C ∧ ∃ xs, es.lookup fld = some (.tup xs) ∧ R xs
  | _ => False
theorem di_ownL (c : CalIL X.prog X.w X.K X.mg X.base C k fld) (hr : Room k' X.A) (h : DE X B e (.own 0) fe) (hk : k ≤ k' := by decide) : DI X B tg e (fun ρ R => fe ρ (ownL C fld R)) := by
  obtain ⟨f, fd, F, hm, hbd⟩ := c.ex
  refine PI.imp (pi_ownL h F (hr.mono hk) hbd hm.at_ hm.fn) fun σ H R ⟨F, ρ, fp, Rx, S, hf, kk⟩ => ⟨F, ρ, fp, _, S, hf, fun F1 H1 v d f1 s1 hv o1 n1 hR => ?_⟩
  cases d <;> try exact (show False from hR).elim
  obtain ⟨rfl, xs, hl, hR⟩ := hR
  obtain ⟨a, dx, gs, rfl, ha, hk2, rl⟩ := hv.1.objI
  obtain ⟨i, u, e1, e2, e3⟩ := lookup_some hk2 hl
  obtain ⟨u', e4, ru⟩ := rl.get e3
  rw [e2] at e4
  cases e4
  obtain ⟨l, vs, rfl, h1, r⟩ := ru.lstI
  exact ⟨a, dx, gs, l, vs, rfl, ins_of s1.wf (s1.wf.sub _ _ ha), e1, lst_sub s1.wf h1, kk _ F1 H1 _ s1 (itD_list (outF (S.step s1 fun a h => by cases h)) s1.wf h1 r) hR⟩
theorem di_ownT (c : CalIT X.prog X.w X.K X.mg X.base C k fld) (hr : Room k' X.A) (h : DE X B e (.own 0) fe) (hk : k ≤ k' := by decide) : DI X B tg e (fun ρ R => fe ρ (ownT C fld R)) := by
  obtain ⟨f, fd, F, hm, hbd⟩ := c.ex
  refine PI.imp (pi_ownT h F (hr.mono hk) hbd hm.at_ hm.fn) fun σ H R ⟨F, ρ, fp, Rx, S, hf, kk⟩ => ⟨F, ρ, fp, _, S, hf, fun F1 H1 v d f1 s1 hv o1 n1 hR => ?_⟩
  cases d <;> try exact (show False from hR).elim
  obtain ⟨rfl, xs, hl, hR⟩ := hR
  obtain ⟨a, dx, gs, rfl, ha, hk2, rl⟩ := hv.1.objI
  obtain ⟨i, u, e1, e2, e3⟩ := lookup_some hk2 hl
  obtain ⟨u', e4, ru⟩ := rl.get e3
  rw [e2] at e4
  cases e4
  obtain ⟨l, vs, rfl, h1, r⟩ := ru.tupI
  exact ⟨a, dx, gs, l, vs, rfl, ins_of s1.wf (s1.wf.sub _ _ ha), e1, tup_sub s1.wf h1, kk _ F1 H1 _ s1 (itD_tup (outF (S.step s1 fun a h => by cases h)) s1.wf h1 r) hR⟩
end
end GK

namespace GK
open PySem PySem.Spec PyProof.Rows L2
/-! ### a place is lent to a name: row = xs[k]; .. row ..; -/
def contD : D → Bool
  | .lst _ => true
  | .dK _ => true
  | .dT _ => true
  | .obj _ _ => true
  | _ => false
section
variable {K : PySem.W.Frag} {B fp : List Addr} {Pn : List V} {Z0 F0 F H : Hp} {σ : L2.St} {ρ : Env} {i j : Nat}
theorem own0_nil : ∀ {vs : List V} {ds : List D} {f : List Addr}, OwnL (Own K F H 0) vs ds f → f = []
  | [], [], _, h => h
  | v :: vs, d :: ds, _, ⟨f1, f2, e, h, t⟩ => by rw [e, h.2, own0_nil t]; rfl
theorem Own.one {v : V} {d : D} {f : List Addr} (h : Own K F H 1 v d f) (c : contD d = true) : ∃ a, v = .ref a ∧ f = [a] := by
  cases d <;> try (cases c; done)
  · obtain ⟨a, vs, g, e, _, ef, t⟩ := h
    exact ⟨a, e, by rw [ef, own0_nil t]⟩
  · obtain ⟨a, vs, g, e, _, ef, _, t⟩ := h
    exact ⟨a, e, by rw [ef, own0_nil t]⟩
  · obtain ⟨a, vs, g, e, _, ef, _, t⟩ := h
    exact ⟨a, e, by rw [ef, own0_nil t]⟩
  · obtain ⟨a, dx, vs, g, e, _, ef, _, t⟩ := h
    exact ⟨a, e, by rw [ef, own0_nil t]⟩
/-- all names up to j hold something -/
def heldTo (ρ : Env) (j : Nat) : Prop := ∀ m, m < j → (slot ρ m).isSome = true
theorem StOk.lend {d e : D} {p : List PSt} {v0 w : V} (S : StOk K B Pn Z0 F0 F H σ ρ fp) (es : slot ρ i = some (1 + p.length, d)) (hs : subP d p = some e) (c : contD e = true) (hv : σ[i]? = some (some v0)) (hp : PathV B H v0 p w) (hj : j < ρ.length) (hij : i < j) (hh : heldTo ρ j) (hpn : Pn.length ≤ j) :
    ∃ Pn' Z1 fp', Pn'.length = j + 1 ∧ StOk K B Pn' Z1 F F H (σ.set j (some w)) ((ρ.set i none).set j (some (1, e))) fp' ∧ Same Z0 Z1 ∧ (∀ (m : Nat) (u : V), Pn[m]? = some u → Pn'[m]? = some u) ∧ (∀ (m : Nat) (u : V), m < j → σ[m]? = some (some u) → Pn'[m]? = some u) ∧
      ∀ F2 H2 σ2 ρ2 fp2 e', StOk K B Pn' Z1 F F2 H2 σ2 ρ2 fp2 → slot ρ2 j = some (1, e') → slot ρ2 i = none → i < ρ2.length → contD e' = true → ∃ fp3, StOk K B Pn Z0 F0 F2 H2 σ2 ((ρ2.set j (some (0, .raw w))).set i (some (1 + p.length, setP d p e'))) fp3 := by
  obtain ⟨v1, f, fp1, e1, o, S1, ap1, sub1⟩ := S.take es
  rw [hv] at e1
  cases e1
  obtain ⟨v', f', pv, ow, s2, nd2, kF⟩ := Own.pathF (B := B) S1.wf o ap1.2 (fun a ha => (ap1.1 a ha).2.1) hs
  cases hp.det pv
  obtain ⟨a, rfl, rfl⟩ := ow.one c
  have hσ : σ.length = ρ.length := S.own.len
  have nd1 : (fp1 ++ [a]).Nodup := List.nodup_append.mpr ⟨S1.nd, nd2, fun x hx y hy e => by
    subst e
    exact (ap1.1 x (s2 x hy)).2.2.2 hx⟩
  obtain ⟨fp', o', nd', sub'⟩ := OwnE.set ow S1.own nd1 (i := j) (by rw [List.length_set]; exact hj)
  have hz : ∀ b ∈ f, Z0 b = none := fun b hb => (ap1.1 b hb).2.2.1
  have heldσ : ∀ m, m < j + 1 → ∃ u, (σ.set j (some (.ref a)))[m]? = some (some u) := fun m hm => by
    by_cases hmj : m = j
    · rw [hmj, List.getElem?_set_self (by omega)]; exact ⟨_, rfl⟩
    · rw [List.getElem?_set_ne (fun z => hmj z.symm)]
      have := hh m (by omega)
      cases q : slot ρ m with
      | none => rw [q] at this; cases this
      | some z =>
        obtain ⟨u, _, e2, _⟩ := S.own.slot q
        exact ⟨u, e2⟩
  refine ⟨((σ.set j (some (.ref a))).take (j + 1)).map (fun o => o.getD .non), fun b => if b ∈ f ∧ b ≠ a then H b else Z0 b, fp', by rw [List.length_map, List.length_take, List.length_set]; omega, ⟨S.wf, o', nd', fun b hb => ?_, fun b u e => ?_, fun b hb => ?_, fun _ _ h => h, fun _ _ h => .inl h, fun m u e => ?_⟩, fun b u e => ?_, fun m u e => ?_, fun m u hm e => ?_, fun F2 H2 σ2 ρ2 fp2 e' T ej ei hi2 ce => ?_⟩
  · rcases sub' b hb with z | z
    · obtain ⟨q1, q2, q3⟩ := S1.out b z
      refine ⟨q1, q2, ?_⟩
      show (if b ∈ f ∧ b ≠ a then H b else Z0 b) = none
      rw [if_neg fun y => (ap1.1 b y.1).2.2.2 z]
      exact q3
    · have hba : b = a := List.mem_singleton.mp z
      obtain ⟨q1, q2, q3, _⟩ := ap1.1 b (s2 b z)
      refine ⟨q1, q2, ?_⟩
      show (if b ∈ f ∧ b ≠ a then H b else Z0 b) = none
      rw [if_neg fun y => y.2 hba]
      exact q3
  · have e : (if b ∈ f ∧ b ≠ a then H b else Z0 b) = some u := e
    split at e
    · exact e
    · exact S.z b u e
  · show (if b ∈ f ∧ b ≠ a then H b else Z0 b) = none
    rw [if_neg fun y => (ap1.1 b y.1).2.1 hb]
    exact S.zB b hb
  · rw [List.getElem?_map] at e
    obtain ⟨o2, e2, e3⟩ := Option.map_eq_some_iff.mp e
    have hm : m < j + 1 := by
      have := (List.getElem?_eq_some_iff.mp e2).1
      rw [List.length_take] at this
      omega
    rw [List.getElem?_take_of_lt hm] at e2
    obtain ⟨u', e4⟩ := heldσ m hm
    rw [e4] at e2 ⊢
    cases e2
    rw [show u' = u from e3]
  · show (if b ∈ f ∧ b ≠ a then H b else Z0 b) = some u
    rw [if_neg fun y => by rw [hz b y.1] at e; cases e]
    exact e
  · have hm : m < Pn.length := (List.getElem?_eq_some_iff.mp e).1
    rw [List.getElem?_map, List.getElem?_take_of_lt (by omega), List.getElem?_set_ne (by omega), S.pn m u e]
    rfl
  · rw [List.getElem?_map, List.getElem?_take_of_lt (by omega), List.getElem?_set_ne (by omega), e]
    rfl
  · have pin : ∀ m u, m < j + 1 → (σ.set j (some (.ref a)))[m]? = some (some u) → σ2[m]? = some (some u) := fun m u hm e => T.pn m u (by
      rw [List.getElem?_map, List.getElem?_take_of_lt hm, e]; rfl)
    obtain ⟨v2, g, fp3, e5, o5, T1, ap5, sub5⟩ := T.take ej
    have e6 := pin j (.ref a) (by omega) (List.getElem?_set_self (by omega))
    rw [e6] at e5
    cases e5
    have hg : g = [a] := by
      obtain ⟨b, eb, eg⟩ := o5.one ce
      cases eb
      exact eg
    subst hg
    have e7 : σ2[i]? = some (some v0) := pin i v0 (by omega) (by rw [List.getElem?_set_ne (by omega)]; exact hv)
    have zH : ∀ b ∈ f, b ≠ a → ∀ u, H b = some u → H2 b = some u := fun b hb hba u e => T.z b u (by
      show (if b ∈ f ∧ b ≠ a then H b else Z0 b) = some u
      rw [if_pos ⟨hb, hba⟩]; exact e)
    have o2 : Own K F2 H (1 + p.length) v0 d f := o.mono T.f fun _ _ _ h => h
    obtain ⟨fp4, o6, nd6, sub6⟩ := kF F2 H2 e' [a] T.f (fun b hb hb' u e => zH b hb (fun z => hb' (by rw [z]; exact List.mem_singleton_self a)) u e) o5 (fun b hb => .inl hb) (by simp)
    have sub7 : ∀ b ∈ fp4, b ∈ f := fun b hb => (sub6 b hb).elim id fun z => s2 b z
    have Z1none : ∀ b, (if b ∈ f ∧ b ≠ a then H b else Z0 b) = none → Z0 b = none := fun b e => by
      split at e
      · rename_i q; exact hz b q.1
      · exact e
    have S3 : StOk K B Pn Z0 F0 F2 H2 σ2 (ρ2.set j none) fp3 := ⟨T1.wf, T1.own, T1.nd, fun b hb => by
        obtain ⟨q1, q2, q3⟩ := T1.out b hb
        exact ⟨q1, q2, Z1none b q3⟩, fun b u e => T.z b u (by
        show (if b ∈ f ∧ b ≠ a then H b else Z0 b) = some u
        rw [if_neg fun y => by rw [hz b y.1] at e; cases e]; exact e), S.zB, fun b u e => T.f b u (S.f b u e), fun b u e => by
        rcases T.fr b u e with z | z | z
        · exact S.fr b u z
        · exact .inr (.inl (Z1none b z))
        · exact .inr (.inr z), fun m u e => by
        have hm : m < Pn.length := (List.getElem?_eq_some_iff.mp e).1
        exact pin m u (by omega) (by rw [List.getElem?_set_ne (by omega)]; exact S.pn m u e)⟩
    have S4 : StOk K B Pn Z0 F0 F2 H2 σ2 ((ρ2.set j none).set j (some (0, .raw (.ref a)))) fp3 :=
      ⟨S3.wf, S3.own.set0 (.raw _) e6 slot_unset, S3.nd, S3.out, S3.z, S3.zB, S3.f, S3.fr, S3.pn⟩
    rw [List.set_set] at S4
    refine S4.put o6 ⟨fun b hb => ?_, nd6⟩ (by rw [List.length_set]; exact hi2) e7
    have hbf := sub7 b hb
    obtain ⟨q1, q2, q3, q4⟩ := ap1.1 b hbf
    refine ⟨?_, q2, q3, fun hm => ?_⟩
    · obtain ⟨u, hu, mu⟩ := o6.there b hb
      cases x : F2 b with
      | none => rfl
      | some y =>
        exfalso
        obtain ⟨_, z, ez, er⟩ := rdH_some (T1.wf.sub b y x)
        rw [hu] at ez
        cases ez
        rw [mut_er mu] at er
        subst er
        by_cases hba : b = a
        · subst hba
          rw [(ap5.1 b (List.mem_singleton_self b)).1] at x
          cases x
        · rcases T.fr b u x with w | w | w
          · rw [q1] at w; cases w
          · have w : (if b ∈ f ∧ b ≠ a then H b else Z0 b) = none := w
            rw [if_pos ⟨hbf, hba⟩] at w
            obtain ⟨u2, hu2, _⟩ := o.there b hbf
            rw [w] at hu2; cases hu2
          · cases u <;> first | exact mu | exact w
    · by_cases hba : b = a
      · subst hba
        exact (ap5.1 b (List.mem_singleton_self b)).2.2.2 hm
      · have w := (T1.out b hm).2.2
        have w : (if b ∈ f ∧ b ≠ a then H b else Z0 b) = none := w
        rw [if_pos ⟨hbf, hba⟩] at w
        obtain ⟨u2, hu2, _⟩ := o.there b hbf
        rw [w] at hu2; cases hu2
end
def heldB : Env → Nat → Bool
  | _, 0 => true
  | [], _ + 1 => false
  | o :: r, n + 1 => o.isSome && heldB r n
theorem heldB_to : ∀ {ρ : Env} {j : Nat}, heldB ρ j = true → heldTo ρ j
  | _, 0, _ => fun m hm => by omega
  | [], _ + 1, h => by cases h
  | o :: r, n + 1, h => fun m hm => by
    have h : (o.isSome && heldB r n) = true := h
    rw [Bool.and_eq_true] at h
    cases m with
    | zero =>
      cases o with
      | none => cases h.1
      | some z => rfl
    | succ m =>
      have := heldB_to h.2 m (by omega)
      exact this
def backS (i j : Nat) (p : List PSt) (m : Nat) (d : D) (ρ2 : Env) (N : Env → Prop) : Prop := match slot ρ2 j with
  | some (m2, e2) => m2 = 1 ∧ contD e2 = true ∧ slot ρ2 i = none ∧ i < ρ2.length ∧ ∀ w, N ((ρ2.set j (some (0, .raw w))).set i (some (m, setP d p e2)))
  | none => False
def lendS (ρ : Env) (i j : Nat) (p : List PSt) (k : Env → (Env → (Env → Prop) → Prop) → Prop) : Prop := match slot ρ i with
  | some (m, d) => ∃ e, m = 1 + p.length ∧ subP d p = some e ∧ contD e = true ∧ heldB ρ j = true ∧ j < ρ.length ∧ k ((ρ.set i none).set j (some (1, e))) (backS i j p m d)
  | none => False
section
variable {X : Cx} {B : List Addr} {st : Stmt} {rest : List Stmt} {e : Expr} {pin i : Nat} {mr : Mode} {g g' gb gr : FS} {gp : FP} {pos : Pos} {u : TS}
theorem lb_last (h : DS X B st pin mr g) (hr : PSs X rest u) : PSs X (st :: rest) (fun Dn => tDS X.K B pin mr g { Dn with nx := u Dn }) := pss_cons h hr
theorem lb_cons (h : DS X B st pin mr g) (hr : PSs X rest (fun Dn => tDS X.K B pin mr g' { Dn with nx := u Dn })) : PSs X (st :: rest) (fun Dn => tDS X.K B pin mr (gSeq g g') { Dn with nx := u Dn }) :=
  PSs.imp (pss_cons h hr) fun Dn σ H ⟨Pn, Z0, F0, F, ρ, fp, E, hp, S, hg, L⟩ => ⟨Pn, Z0, F0, F, ρ, fp, _, hp, S, hg, L.seq hp⟩
/-- row = PLACE; .. -/
theorem ds_lend (j : Nat) {x : Str} {pos' : Pos} (hij : i < j) (hN : X.N.Nodup) (hi : X.N[j]? = some x) (hx : Loc X.env.scope x) (hp : pin ≤ j) (he : DP X B e i gp) (hb : PSs X rest (fun Dn => tDS X.K B (j + 1) mr gb { Dn with nx := tDS X.K B pin mr gr Dn })) (hs : swapsWith e (some (.Name x pos')) pos.line X.env = pure false := by rfl)
    (hf : X.fn x = true ∨ X.env.scope.names.lookup x = some .local := by first | exact .inl rfl | exact .inr rfl | assumption) :
    DSs X B (.Assign [.Name x pos'] e pos :: rest) pin mr (fun E ρ => gp ρ fun p => lendS ρ i j p fun ρ1 back => gb { nx := fun ρ2 => back ρ2 (gr E), rt := fun _ _ => False } ρ1) :=
  PSs.imp (pss_cons (ps_set hN hi hx he hs hf) hb) fun Dn σ H ⟨Pn, Z0, F0, F, ρ, fp, E, hpl, S, hg, L⟩ => by
    refine ⟨F, ρ, fp, _, S.base, hg, fun F' H' p v v0 s hv hpv hR => ?_⟩
    have S' := S.step s fun a h => (by cases h)
    unfold lendS at hR
    split at hR
    · rename_i m d es
      obtain ⟨e1, rfl, hsub, hc, hh, hj, hk⟩ := hR
      obtain ⟨Pn', Z1, fp', hl, S1, _, _, _, back⟩ := S'.lend es hsub hc hv hpv hj hij (heldB_to hh) (by omega)
      refine ⟨Pn', Z1, F', F', _, fp', _, hl, S1, hk, fun F2 H2 σ2 ρ2 fp2 T hN => ?_, fun _ _ _ _ _ _ _ _ _ _ _ h => h.elim, fun _ _ _ _ _ _ h => h.elim, fun _ _ _ _ _ _ h => h.elim⟩
      have hN : backS i j p _ d ρ2 (gr E) := hN
      unfold backS at hN
      split at hN
      · rename_i m2 e2 ej
        obtain ⟨rfl, hc2, hi2, hl2, hN⟩ := hN
        obtain ⟨fp3, S3⟩ := back F2 H2 σ2 ρ2 fp2 e2 T ej hi2 hl2 hc2
        exact ⟨Pn, Z0, F0, F2, _, fp3, E, hpl, S3, hN v, L⟩
      · exact hN.elim
    · exact hR.elim
/-- what is never reached -/
theorem ds_never : DS X B st pin mr (fun _ _ => False) := ⟨fun _ _ _ _ _ _ ⟨_, _, _, _, _, _, _, _, _, h, _⟩ => h.elim⟩
end
end GK

namespace GK
open PySem PySem.Spec PyProof.Rows L2
/-! ### min, max of a list of whole numbers; str(n); dict(d) -/
def strI (i : Int) : Str := Str.ofString (toString i)
theorem strI_ok (i : Int) : strOk (strI i) = true := by
  rw [strOk_iff]
  intro c hc
  unfold strI at hc
  rw [Str.ofString_eq_toList] at hc
  have hc : c ∈ (toString i).toList.map Char.toNat := by simpa using hc
  obtain ⟨d, hd, rfl⟩ := List.mem_map.mp hc
  have := PySem.int_ascii i d hd
  omega
def gStrI : List D → (D → Prop) → Prop
  | [.int i], R => i.natAbs.log2 < 1920 ∧ R (.str (strI i))
  | _, _ => False
def gMaxL : List D → (D → Prop) → Prop
  | [.lst ds], R => ∃ ns, intsOf ds = some ns ∧ 0 < ns.length ∧ ∀ m, m ∈ ns → (∀ y ∈ ns, y ≤ m) → R (.int m)
  | _, _ => False
def gMinL : List D → (D → Prop) → Prop
  | [.lst ds], R => ∃ ns, intsOf ds = some ns ∧ 0 < ns.length ∧ ∀ m, m ∈ ns → (∀ y ∈ ns, m ≤ y) → R (.int m)
  | _, _ => False
def gDictK : List D → (D → Prop) → Prop
  | [.dK es], R => R (.dK es)
  | _, _ => False
theorem opN_str {K : PySem.W.Frag} {m1 m : Mode} : OpN K (fun xs H Q => ∃ i, xs = [.int i] ∧ i.natAbs.log2 < 1920 ∧ Q (.str (toString i)) H) [m1] m gStrI := by
  intro B F H vs ds fp R Q w hv hf hg k
  unfold gStrI at hg
  split at hg
  · obtain ⟨v, rfl, h⟩ := hv.one
    obtain ⟨rfl, _⟩ := h.int
    exact ⟨_, rfl, hg.1, k.str w hg.2⟩
  · exact hg.elim
theorem opN_maxL {K : PySem.W.Frag} {m1 m : Mode} (h1 : m1.look = true) : OpN K (rMax K) [m1] m gMaxL := by
  intro B F H vs ds fp R Q w hv hf hg k
  unfold gMaxL at hg
  split at hg
  · obtain ⟨ns, e, h0, hR⟩ := hg
    obtain ⟨v, rfl, h⟩ := hv.one
    obtain ⟨_, a, xs, rfl, ha, it⟩ := h.lst h1 w
    have e' := ints_of e
    subst e'
    have := it.ints
    subst this
    exact ⟨a, ns, rfl, ha, h0, fun m hm hle => k.int w (hR m hm hle)⟩
  · exact hg.elim
theorem opN_minL {K : PySem.W.Frag} {m1 m : Mode} (h1 : m1.look = true) : OpN K (rMin K) [m1] m gMinL := by
  intro B F H vs ds fp R Q w hv hf hg k
  unfold gMinL at hg
  split at hg
  · obtain ⟨ns, e, h0, hR⟩ := hg
    obtain ⟨v, rfl, h⟩ := hv.one
    obtain ⟨_, a, xs, rfl, ha, it⟩ := h.lst h1 w
    have e' := ints_of e
    subst e'
    have := it.ints
    subst this
    exact ⟨a, ns, rfl, ha, h0, fun m hm hle => k.int w (hR m hm hle)⟩
  · exact hg.elim
theorem opN_dictK {K : PySem.W.Frag} : OpN K (fun xs H Q => ∃ (a : Addr) (kvs : List (Key × V)), xs = [.ref a] ∧ Rd H a (.dK kvs) ∧ ∀ p, H p = none → Q (.ref p) (upd H p (.dK kvs))) [.own 0] (.own 1) gDictK := by
  intro B F H vs ds fp R Q w hv hf hg k
  unfold gDictK at hg
  split at hg
  · rename_i es
    obtain ⟨v, rfl, h⟩ := hv.one
    obtain ⟨a, kvs, rfl, ha, hk, r⟩ := (show GK.R K F v _ from h.1).dKI
    refine ⟨a, kvs, rfl, rd_of_rdH (w.sub _ _ ha), fun p hp => ?_⟩
    refine k F _ _ (.dK es) [p] (Step.laid w hp rfl) ⟨p, kvs, [], rfl, upd_same, rfl, hk, OwnL.zero r⟩ (fun b hb => ?_) (by simp) hg
    have e : b = p := by simpa using hb
    subst e
    exact ⟨.inr hp, F_none w hp, w.notB hp⟩
  · exact hg.elim
section
variable {X : Cx} {B : List Addr} {e : Expr} {p pos : Pos} {m m1 : Mode} {f : FE}
theorem de_strI (hz : X.mg "str" = none) (ha : DE X B e m1 f) (hg : Gl X "str" := by rfl) (he : starEach [e] X.env = (false, eval e X.env) :: starEach [] X.env := by rfl) (hpl : (backTo pos (starEach [] X.env)).any (·.1) = false := by rfl) :
    DE X B (.Call (.Name "str" p) [e] [] pos) m (fArgs gStrI (fCons f fNil)) := de_Ty call_str_int opN_str hg hz (by decide +kernel) (da_cons ha da_nil he) (by decide) (by decide) he hpl
theorem de_maxL (hc : X.calm = true) (hz : X.mg "max" = none) (ha : DE X B e m1 f) (hm : m1.look = true := by rfl) (hg : Gl X "max" := by rfl) (he : starEach [e] X.env = (false, eval e X.env) :: starEach [] X.env := by rfl) (hpl : (backTo pos (starEach [] X.env)).any (·.1) = false := by rfl) :
    DE X B (.Call (.Name "max" p) [e] [] pos) m (fArgs gMaxL (fCons f fNil)) := de_B (cr_max hc) (opN_maxL hm) hg hz (by decide +kernel) (da_cons ha da_nil he) (by decide) (by decide) he hpl
theorem de_minL (hc : X.calm = true) (hz : X.mg "min" = none) (ha : DE X B e m1 f) (hm : m1.look = true := by rfl) (hg : Gl X "min" := by rfl) (he : starEach [e] X.env = (false, eval e X.env) :: starEach [] X.env := by rfl) (hpl : (backTo pos (starEach [] X.env)).any (·.1) = false := by rfl) :
    DE X B (.Call (.Name "min" p) [e] [] pos) m (fArgs gMinL (fCons f fNil)) := de_B (cr_min hc) (opN_minL hm) hg hz (by decide +kernel) (da_cons ha da_nil he) (by decide) (by decide) he hpl
theorem de_dictK (hz : X.mg "dict" = none) (ha : DE X B e (.own 0) f) (hg : Gl X "dict" := by rfl) (he : starEach [e] X.env = (false, eval e X.env) :: starEach [] X.env := by rfl) (hpl : (backTo pos (starEach [] X.env)).any (·.1) = false := by rfl) :
    DE X B (.Call (.Name "dict" p) [e] [] pos) (.own 1) (fArgs gDictK (fCons f fNil)) := de_Ty call_dictD opN_dictK hg hz (by decide +kernel) (da_cons ha da_nil he) (by decide) (by decide) he hpl
end
theorem intsOf_map : ∀ (ns : List Int), intsOf (ns.map D.int) = some ns
  | [] => rfl
  | n :: ns => by
    rw [List.map_cons]
    unfold intsOf
    rw [intsOf_map ns]; rfl
theorem gMaxL_go {ns : List Int} {R : D → Prop} (h0 : ns ≠ []) (q : ∀ m, m ∈ ns → (∀ y ∈ ns, y ≤ m) → R (.int m)) : gMaxL [.lst (ns.map .int)] R := ⟨ns, intsOf_map ns, List.length_pos_iff.mpr h0, q⟩
theorem gMinL_go {ns : List Int} {R : D → Prop} (h0 : ns ≠ []) (q : ∀ m, m ∈ ns → (∀ y ∈ ns, m ≤ y) → R (.int m)) : gMinL [.lst (ns.map .int)] R := ⟨ns, intsOf_map ns, List.length_pos_iff.mpr h0, q⟩
theorem gSum_go {ns : List Int} {R : D → Prop} (q : R (.int ns.sum)) : gSum [.lst (ns.map .int)] R := ⟨ns, intsOf_map ns, q⟩
theorem gDictK_dK {es : List (Key × D)} {R : D → Prop} : gDictK [.dK es] R = R (.dK es) := rfl
theorem gStrI_int {i : Int} {R : D → Prop} : gStrI [.int i] R = (i.natAbs.log2 < 1920 ∧ R (.str (strI i))) := rfl
end GK

namespace GK
open PySem PySem.Spec PyProof.Rows L2
/-! ### the order of tuples and lists -/
def rCmpD (K : PySem.W.Frag) (h : PyData → PyData → Bool) : R2 := fun x y H Q => ∃ d e, Dp K H x d ∧ Dp K H y e ∧ PySem.W.alike d e = true ∧ d ≠ .none ∧ min d.depth e.depth ≤ 64 ∧ Q (.bl (h d e)) H
abbrev hLt : PyData → PyData → Bool := fun a b => PySem.W.dataLt a b
abbrev hGt : PyData → PyData → Bool := fun a b => PySem.W.dataLt b a
abbrev hLe : PyData → PyData → Bool := fun a b => !PySem.W.dataLt b a
abbrev hGe : PyData → PyData → Bool := fun a b => !PySem.W.dataLt a b
section
variable {X : Cx}
theorem op_ltD (hu : X.A.units + 64 < cLine) : OpR X (compareOp .Lt) (rCmpD X.K hLt) := by
  intro pins s σ H x y v u Q I rx ry h
  obtain ⟨d, e, hd, he, al, nn, hm, q⟩ := h
  obtain ⟨as, r1⟩ := Dp.reads I d x v hd rx
  obtain ⟨bs, r2⟩ := Dp.reads I e y u he ry
  exact PySem.W.lt_data r1 r2 al nn (by omega) ⟨.bl _, H, I, rfl, q⟩
theorem op_gtD (hu : X.A.units + 64 < cLine) : OpR X (compareOp .Gt) (rCmpD X.K hGt) := by
  intro pins s σ H x y v u Q I rx ry h
  obtain ⟨d, e, hd, he, al, nn, hm, q⟩ := h
  obtain ⟨as, r1⟩ := Dp.reads I d x v hd rx
  obtain ⟨bs, r2⟩ := Dp.reads I e y u he ry
  exact PySem.W.gt_data r1 r2 al nn (by omega) ⟨.bl _, H, I, rfl, q⟩
theorem op_leD (hu : X.A.units + 64 < cLine) : OpR X (compareOp .LtE) (rCmpD X.K hLe) := by
  intro pins s σ H x y v u Q I rx ry h
  obtain ⟨d, e, hd, he, al, nn, hm, q⟩ := h
  obtain ⟨as, r1⟩ := Dp.reads I d x v hd rx
  obtain ⟨bs, r2⟩ := Dp.reads I e y u he ry
  exact PySem.W.le_data r1 r2 al nn (by omega) ⟨.bl _, H, I, rfl, q⟩
theorem op_geD (hu : X.A.units + 64 < cLine) : OpR X (compareOp .GtE) (rCmpD X.K hGe) := by
  intro pins s σ H x y v u Q I rx ry h
  obtain ⟨d, e, hd, he, al, nn, hm, q⟩ := h
  obtain ⟨as, r1⟩ := Dp.reads I d x v hd rx
  obtain ⟨bs, r2⟩ := Dp.reads I e y u he ry
  exact PySem.W.ge_data r1 r2 al nn (by omega) ⟨.bl _, H, I, rfl, q⟩
end
def gCmpD (h : PyData → PyData → Bool) (x y : D) (R : D → Prop) : Prop := okD 60 x = true ∧ okD 60 y = true ∧ PySem.W.alike (toP x) (toP y) = true ∧ toP x ≠ .none ∧ R (.bl (h (toP x) (toP y)))
section
variable {X : Cx} {a b : Expr} {pos : Pos} {m m1 m2 : Mode} {f f' : FE}
theorem op2_cmpD {K : PySem.W.Frag} {h : PyData → PyData → Bool} : Op2 K (rCmpD K h) m1 m2 m (gCmpD h) := by
  intro B F H x y d e fp R Q w ⟨f1, f2, ef, h1, h2⟩ hf ⟨o1, o2, al, nn, hg⟩ k
  subst ef
  have r1 := h1.rd w fun a ha => (hf.1 a (List.mem_append_left _ ha)).2
  have r2 := h2.rd w fun a ha => (hf.1 a (List.mem_append_right _ ha)).2
  exact ⟨_, _, GK.R.dp o1 r1, GK.R.dp o2 r2, al, nn, by have := (okD_can o1).2; omega, k.bl w hg⟩
theorem de_ltD (hu : X.A.units + 64 < cLine) (ha : DE X B a m1 f) (hb : DE X B b m2 f') : DE X B (.Compare a [.Lt] [b] pos) m (fBin (gCmpD hLt) f f') := de_cmp (op_ltD hu) op2_cmpD ha hb (nomark _)
theorem de_leD (hu : X.A.units + 64 < cLine) (ha : DE X B a m1 f) (hb : DE X B b m2 f') : DE X B (.Compare a [.LtE] [b] pos) m (fBin (gCmpD hLe) f f') := de_cmp (op_leD hu) op2_cmpD ha hb (nomark _)
theorem de_gtD (hu : X.A.units + 64 < cLine) (ha : DE X B a m1 f) (hb : DE X B b m2 f') : DE X B (.Compare a [.Gt] [b] pos) m (fBin (gCmpD hGt) f f') := de_cmp (op_gtD hu) op2_cmpD ha hb (nomark _)
theorem de_geD (hu : X.A.units + 64 < cLine) (ha : DE X B a m1 f) (hb : DE X B b m2 f') : DE X B (.Compare a [.GtE] [b] pos) m (fBin (gCmpD hGe) f f') := de_cmp (op_geD hu) op2_cmpD ha hb (nomark _)
theorem dt_ltD (hu : X.A.units + 64 < cLine) (ha : DE X B a m1 f) (hb : DE X B b m2 f') : DT X B (.Compare a [.Lt] [b] pos) (fBool (fBin (gCmpD hLt) f f')) := dt_cmp .rd (op_ltD hu) op2_cmpD ha hb (nomark _)
theorem dt_leD (hu : X.A.units + 64 < cLine) (ha : DE X B a m1 f) (hb : DE X B b m2 f') : DT X B (.Compare a [.LtE] [b] pos) (fBool (fBin (gCmpD hLe) f f')) := dt_cmp .rd (op_leD hu) op2_cmpD ha hb (nomark _)
theorem dt_gtD (hu : X.A.units + 64 < cLine) (ha : DE X B a m1 f) (hb : DE X B b m2 f') : DT X B (.Compare a [.Gt] [b] pos) (fBool (fBin (gCmpD hGt) f f')) := dt_cmp .rd (op_gtD hu) op2_cmpD ha hb (nomark _)
theorem dt_geD (hu : X.A.units + 64 < cLine) (ha : DE X B a m1 f) (hb : DE X B b m2 f') : DT X B (.Compare a [.GtE] [b] pos) (fBool (fBin (gCmpD hGe) f f')) := dt_cmp .rd (op_geD hu) op2_cmpD ha hb (nomark _)
end
/-- pairs of numbers -/
theorem dl_ii (a b c d : Int) : PySem.W.dataLt (.tuple [.int a, .int b]) (.tuple [.int c, .int d]) = decide (a < c ∨ (a = c ∧ b < d)) := by
  have h := PySem.W.DatumOrd.lt_eq ((a, b) : Int × Int) (c, d)
  refine h.trans ?_
  show (if a = c then decide (b < d) else decide (a < c)) = _
  by_cases e : a = c
  · rw [if_pos e]
    simp [e]
  · rw [if_neg e]
    simp [e]
theorem al_ii (a b c d : Int) : PySem.W.alike (.tuple [.int a, .int b]) (.tuple [.int c, .int d]) = true := PySem.W.DatumOrd.alike ((a, b) : Int × Int) (c, d)
theorem gGt_ii {a b c d : Int} {R : D → Prop} : gCmpD hGt (.tup [.int a, .int b]) (.tup [.int c, .int d]) R = R (.bl (decide (c < a ∨ (c = a ∧ d < b)))) := by
  unfold gCmpD
  apply propext
  have e : hGt (toP (.tup [.int a, .int b])) (toP (.tup [.int c, .int d])) = decide (c < a ∨ (c = a ∧ d < b)) := by
    simp only [toP, toPs]
    exact dl_ii c d a b
  rw [e]
  refine ⟨fun h => h.2.2.2.2, fun h => ⟨rfl, rfl, ?_, ?_, h⟩⟩
  · simp only [toP, toPs]
    exact al_ii a b c d
  · simp [toP]
theorem gLt_ii {a b c d : Int} {R : D → Prop} : gCmpD hLt (.tup [.int a, .int b]) (.tup [.int c, .int d]) R = R (.bl (decide (a < c ∨ (a = c ∧ b < d)))) := by
  unfold gCmpD
  apply propext
  have e : hLt (toP (.tup [.int a, .int b])) (toP (.tup [.int c, .int d])) = decide (a < c ∨ (a = c ∧ b < d)) := by
    simp only [toP, toPs]
    exact dl_ii a b c d
  rw [e]
  refine ⟨fun h => h.2.2.2.2, fun h => ⟨rfl, rfl, ?_, ?_, h⟩⟩
  · simp only [toP, toPs]
    exact al_ii a b c d
  · simp [toP]
end GK

namespace GK
open PySem PySem.Spec PyProof.Rows L2
mutual
theorem okD_mono : ∀ {n m : Nat} {d : D}, okD n d = true → n ≤ m → okD m d = true
  | _, _, .non, _, _ => by simp [okD]
  | _, _, .bl _, _, _ => by simp [okD]
  | _, _, .int _, _, _ => by simp [okD]
  | _, _, .str s, h, _ => by
    simp only [okD] at h ⊢
    exact h
  | n + 1, m + 1, .tup xs, h, hm => by
    rw [okD] at h ⊢
    exact okDs_mono h (by omega)
  | n + 1, m + 1, .lst xs, h, hm => by
    rw [okD] at h ⊢
    exact okDs_mono h (by omega)
  | 0, _, .tup xs, h, _ => by simp [okD] at h
  | 0, _, .lst xs, h, _ => by simp [okD] at h
  | _, _, .kp d, h, hm => by
    simp only [okD] at h ⊢
    exact okD_mono h hm
  | n + 1, 0, _, _, hm => by omega
  | n, _, .raw _, h, _ => by simp [okD] at h
  | n, _, .dK _, h, _ => by simp [okD] at h
  | n, _, .dT _, h, _ => by simp [okD] at h
  | n, _, .obj _ _, h, _ => by simp [okD] at h
theorem okDs_mono : ∀ {n m : Nat} {ds : List D}, okDs n ds = true → n ≤ m → okDs m ds = true
  | _, _, [], _, _ => by simp [okDs]
  | n, m, d :: ds, h, hm => by
    rw [okDs, Bool.and_eq_true] at h ⊢
    exact ⟨okD_mono h.1 hm, okDs_mono h.2 hm⟩
end
theorem gLen_sq {e : D} {xs : List D} {R : D → Prop} (s : isSeq e xs) (q : R (.int xs.length)) : gLen [e] R := by
  rcases s with rfl | rfl
  · exact q
  · exact q
theorem any_ints {x : Int} : ∀ {ys : List Int}, ((ys.map D.int).any fun z => eqF z (D.int x)) = decide (x ∈ ys)
  | [] => rfl
  | y :: ys => by
    rw [List.map_cons, List.any_cons, any_ints]
    show ((y == x) || decide (x ∈ ys)) = decide (x ∈ y :: ys)
    by_cases h : y = x
    · subst h; simp
    · have h2 : ¬ x = y := fun z => h z.symm
      have h3 : (y == x) = false := by simp [h]
      rw [h3, Bool.false_or]
      by_cases m : x ∈ ys
      · rw [decide_eq_true m, decide_eq_true (List.mem_cons_of_mem _ m)]
      · rw [decide_eq_false m, decide_eq_false fun z => (List.mem_cons.mp z).elim h2 m]
theorem gIn_ints {n : Bool} {x : Int} {ys : List Int} {R : D → Prop} (q : R (.bl (n ^^ decide (x ∈ ys)))) : gIn n (.int x) (.lst (ys.map .int)) R := by
  refine ⟨_, rfl, rfl, ?_, ?_⟩
  · rw [List.all_map]
    exact List.all_eq_true.mpr fun y _ => rfl
  · rw [any_ints]; exact q
/-! ### sorted -/
theorem leD_lt (a b : D) : leD a b = !PySem.W.dataLt (toP b) (toP a) := rfl
theorem leD_int (a b : Int) : leD (.int a) (.int b) = decide (a ≤ b) := by
  rw [leD_lt]
  simp only [toP]
  rw [PySem.W.dataLt_int]
  by_cases h : b < a
  · rw [decide_eq_true h, decide_eq_false (by omega)]; rfl
  · rw [decide_eq_false h, decide_eq_true (by omega)]; rfl
theorem al_int (a b : Int) : PySem.W.alike (.int a) (.int b) = true := by simp only [PySem.W.alike]
def leI (a b : Int) : Bool := decide (a ≤ b)
theorem gSort_ints {ns : List Int} {R : D → Prop} (q : R (.lst ((ns.mergeSort leI).map .int))) : gSort [.lst (ns.map .int)] R := by
  refine ⟨⟨fun d hd => ?_, ?_, ?_⟩, ?_⟩
  · obtain ⟨n, _, rfl⟩ := List.mem_map.mp hd
    simp [okD]
  · rw [List.map_map]
    exact PySem.W.AllAlike.of fun a b => by
      show PySem.W.alike (toP (.int a)) (toP (.int b)) = true
      simp only [toP]
      exact al_int a b
  · rw [List.map_map]
    exact PySem.W.Sortable.others fun b => by
      show toP (.int b) ≠ .none ∧ ∀ xs, toP (.int b) ≠ .tuple xs
      simp only [toP]
      exact ⟨(fun e => (nomatch e)), (fun _ e => (nomatch e))⟩
  · have e : (ns.map D.int).mergeSort leD = (ns.mergeSort leI).map D.int := by
      refine (List.map_mergeSort fun a _ b _ => ?_).symm
      show leI a b = leD (.int a) (.int b)
      rw [leD_int]; rfl
    rw [e]
    exact q
theorem sortI_pw (ns : List Int) : (ns.mergeSort leI).Pairwise fun a b => a ≤ b := by
  have := List.pairwise_mergeSort (le := leI) (fun a b c h1 h2 => by unfold leI at *; simp at *; omega) (fun a b => by unfold leI; simp; omega) ns
  exact this.imp fun {a b} h => by unfold leI at h; simpa using h
theorem sortI_perm (ns : List Int) : (ns.mergeSort leI).Perm ns := List.mergeSort_perm _ _
theorem sortI_len (ns : List Int) : (ns.mergeSort leI).length = ns.length := (sortI_perm ns).length_eq
theorem sortI_mem {ns : List Int} {x : Int} : x ∈ ns.mergeSort leI ↔ x ∈ ns := (sortI_perm ns).mem_iff
/-- a sorted list has the same members -/
theorem gSort_perm {α : Type} {f : α → D} {l : List α} {R : D → Prop} (h1 : ∀ a ∈ l, okD 64 (f a) = true) (h2 : ∀ a b, PySem.W.alike (toP (f a)) (toP (f b)) = true) (h3 : ∀ a, ∃ x r, toP (f a) = .tuple (x :: r)) (q : ∀ l2 : List α, l2.Perm l → R (.lst (l2.map f))) : gSort [.lst (l.map f)] R := by
  refine ⟨⟨fun d hd => ?_, ?_, ?_⟩, ?_⟩
  · obtain ⟨n, hn, rfl⟩ := List.mem_map.mp hd
    exact h1 n hn
  · rw [List.map_map]
    exact PySem.W.AllAlike.of fun a b => h2 a b
  · rw [List.map_map]
    exact PySem.W.Sortable.tuples fun b => h3 b
  · have e : (l.map f).mergeSort leD = (l.mergeSort fun a b => leD (f a) (f b)).map f := (List.map_mergeSort (f := f) (r := fun a b => leD (f a) (f b)) (s := leD) (l := l) fun a _ b _ => rfl).symm
    rw [e]
    exact q _ (List.mergeSort_perm _ _)
/-- a comprehension whose items are known by a property -/
theorem compD_rel {Z α : Type} {ι : Z → D} {xs : List Z} (f : α → D) (P : Z → α → Prop) {t : D → Env → Option Env} {fe : FE} {ρ : Env} {R : D → Prop} (hs : ∀ x ∈ xs, ∃ ρ', t (ι x) ρ = some ρ' ∧ ∀ N : D → Prop, (∀ a, P x a → N (f a)) → fe ρ' N) (hl : xs.length ≤ sizeLine) (hR : ∀ as : List α, as.length = xs.length → (∀ i, ∀ h : i < xs.length, ∀ h2 : i < as.length, P xs[i] as[i]) → R (.lst (as.map f))) : compD t (fun _ R => R true) fe ρ (xs.map ι) [] R := by
  have key : ∀ (ys zs : List Z) (as : List α), zs ++ ys = xs → as.length = zs.length → (∀ i, ∀ h : i < zs.length, ∀ h2 : i < as.length, P zs[i] as[i]) → compD t (fun _ R => R true) fe ρ (ys.map ι) (as.map f) R := by
    intro ys
    induction ys with
    | nil =>
      intro zs as e hl2 hp
      rw [List.append_nil] at e
      subst e
      exact hR as hl2 hp
    | cons x r ih =>
      intro zs as e hl2 hp
      have hx : x ∈ xs := by rw [← e]; simp
      obtain ⟨ρ', e1, h⟩ := hs x hx
      refine ⟨ρ', e1, ?_⟩
      show (if true = true then _ else _)
      rw [if_pos rfl]
      refine h _ fun a ha => ⟨?_, ?_⟩
      · have h2 := congrArg List.length e
        rw [List.length_append, List.length_cons] at h2
        rw [List.length_map]
        omega
      · have nxt := ih (zs ++ [x]) (as ++ [a]) (by rw [← e]; simp) (by rw [List.length_append, List.length_append, hl2]; rfl) fun i h1 h2 => by
          by_cases q : i < zs.length
          · rw [List.getElem_append_left q, List.getElem_append_left (by omega)]
            exact hp i q (by omega)
          · have e2 : i = zs.length := by rw [List.length_append] at h1; simp at h1; omega
            subst e2
            rw [List.getElem_append_right (Nat.le_refl _), List.getElem_append_right (by omega)]
            simp only [hl2, Nat.sub_self, List.getElem_cons_zero]
            exact ha
        rw [List.map_append] at nxt
        exact nxt
  exact key xs [] [] rfl rfl fun i h => absurd h (Nat.not_lt_zero _)
/-! ### tables by pairs of numbers -/
def qN (p : Nat × Nat) : List Key := [.inl p.1, .inl p.2]
theorem qN_inj : ∀ a b, qN a = qN b → a = b := fun a b h => by
  unfold qN at h
  injection h with h1 h2
  injection h2 with h2
  exact Prod.ext (Int.ofNat.inj (Sum.inl.inj h1)) (Int.ofNat.inj (Sum.inl.inj h2))
def nnT {β : Type} (f : β → D) (l : List ((Nat × Nat) × β)) : D := .dT (l.map (kvA qN f))
section
variable {β : Type} {f : β → D} {m : List ((Nat × Nat) × β)} {x y : Nat} {v : β}
theorem look_nT : lookD (nnT f m) (.tup [natD x, natD y]) = some ((gA m (x, y)).map f) := by
  show some (getD' (m.map (kvA qN f)) (qN (x, y))) = _
  rw [getD_A qN_inj]
theorem nin_go {b : Bool} {R : D → Prop} (q : R (.bl (b ^^ (gA m (x, y)).isSome))) : gDIn b (.tup [natD x, natD y]) (nnT f m) R := ⟨(gA m (x, y)).map f, look_nT, by rw [Option.isSome_map]; exact q⟩
theorem own_nT {ρ : Env} {i n : Nat} {q : List (List Key × D) → Prop} (e : slot ρ i = some (n + 1, nnT f m)) (h : q (m.map (kvA qN f))) : ownDT ρ i n q := by
  unfold ownDT
  rw [e]
  exact ⟨rfl, h⟩
theorem put_nT : putD (m.map (kvA qN f)) (qN (x, y)) (f v) = (iA m (x, y) v).map (kvA qN f) := putD_A (q := qN) (k := (x, y)) qN_inj
end
end GK

namespace GK
open PySem PySem.Spec PyProof.Rows L2
/-! ### a comprehension over a list that stays owned -/
def tDIc (K : PySem.W.Frag) (B : List Addr) (fi : FI) : TI := fun σ H R => ∃ F ρ fp Rx, StOk K B [] noH noH F H σ ρ fp ∧ fi ρ Rx ∧
  ∀ J F1 H1 xs, Step B [] F H F1 H1 → ItD K B (prot B [] H1) F1 J xs → Rx xs → R J H1
abbrev DIc (X : Cx) (B : List Addr) (tg iter : Expr) (fi : FI) : Prop := PI X tg iter (tDIc X.K B fi)
section
variable {K : PySem.W.Frag} {B : List Addr} {F1 H1 : Hp}
theorem itD_own {a : Addr} {vs : List V} {xs : List D} (hB : a ∉ B) (h : H1 a = some (.lst vs)) (r : RL K F1 vs xs) : ItD K B (prot B [] H1) F1 (Itl K a) xs := by
  intro i F H w' sz sf
  have hz : prot B [] H1 a = some (.lst vs) := by
    unfold prot
    rw [if_neg fun z => z.elim (fun z => nomatch z) hB, h]
  have ex := sz a _ hz
  have hs : SqL K H a vs := .inl (.inl ex)
  have rl := r.mono sf
  refine ⟨fun hi => ?_, fun hi => ⟨vs, hs, by rw [r.length]; exact hi⟩⟩
  have hi' : i < vs.length := by rw [r.length]; exact hi
  refine ⟨⟨vs, vs[i], hs, by simp [hi']⟩, fun y H' ⟨e, hy⟩ => ?_⟩
  subst e
  obtain ⟨d, ed, rd⟩ := rl.getV (hy vs hs)
  exact ⟨F, d, ed, Step.refl w', rd⟩
end
section
variable {X : Cx} {elt tg iter e : Expr} {ifs : List Expr} {scope : Scope} {own : List (Str × Nat)} {pos : Pos} {fi : FI} {f fe : FE} {fc : FT} {t : D → Env → Option Env} {n : Nat}
theorem dic_own (h : DE X B e (.bor 1) f) : DIc X B tg e (fun ρ R => f ρ (xsOf R)) := PI.imp (pi_list h) fun σ H R ⟨F, ρ, fp, Rx, S, hf, k⟩ => ⟨F, ρ, fp, _, S, hf, fun F1 H1 v d f1 s1 hv o1 n1 hR => by
  cases d <;> try exact (show False from hR).elim
  obtain ⟨⟨g, ⟨a, vs, g2, rfl, h1, eg, ow⟩, hB⟩, _⟩ := hv
  have haB : a ∉ B := hB a (by rw [eg]; exact List.mem_cons_self)
  exact ⟨a, rfl, ⟨vs, .inl (.inl h1)⟩, k _ F1 H1 _ s1 (itD_own haB h1 ow.toRL0) hR⟩⟩
theorem tD_lcC {wi : TI} {g : TG} {σ : L2.St} {H : Hp} {Q : VK} {vs : List Nat} (hwi : ∀ σ H R, tDIc X.K B fi σ H R → wi σ H R)
    (kg : ∀ (B : List Addr) (F H : Hp) (σ : L2.St) (ρ ρ' : Env) (fp : List Addr) (v : V) (d : D), StOk X.K B [] noH noH F H (L2.wipe σ vs) ρ fp → R X.K F v d → t d ρ = some ρ' →
      ∀ Q : L2.St → Hp → Prop, (∀ σ' fp', StOk X.K B [] noH noH F H σ' ρ' fp' → L2.wipe σ' vs = L2.wipe σ vs → Q σ' H) → g v (L2.wipe σ vs) H Q)
    (h : tD X.K B (.own (n + 1)) (gComp fi t fc fe vs) σ H Q) : tLc wi g (tDT X.K B fc) (tD X.K B (.own n) fe) vs σ H Q := by
  obtain ⟨F, ρ, fp, R, S, hf, k⟩ := h
  refine hwi σ H _ ⟨F, ρ, fp, _, S, hf, fun J F1 H1 xs s1 it hx Da hD => ?_⟩
  have S1 := S.step s1 fun a h => (by cases h)
  obtain ⟨fpw, Sw, _⟩ := S1.wipe vs
  refine comp_core (n := n) kg Sw it (fun a o e => ?_) hD hx fun F H va da ga w hR => w.post hD (S1.wf.notB hD) hR (k.after s1 (A1 := []) fun a h => (by cases h))
  by_cases c : a ∈ ([] : List Addr) ∨ a ∈ B
  · rw [prot_in c] at e; cases e
  · unfold prot at e
    rw [if_neg c] at e
    exact ⟨fun z => c (.inr z), e⟩
theorem de_lcC (n : Nat) (hc : X.calm = true) (hN : X.N.Nodup) (hi : DIc X B tg iter fi) (ok : BlkOk X.N X.env.scope scope own) (hg : DGc X tg (own.map (·.2)) t) (hol : ∀ v ∈ own.map (·.2), ∃ x, X.N[v]? = some x ∧ ∀ C cl, (compEnvC scope cl C X.env).scope.names.lookup x = some .local)
    (ht : ∀ (s : Shared) (H : Hp) (C : Addr) (cl : List (Str × Addr)) (fp : List Addr), DTs (X.blk s H scope (compEnvC scope cl C X.env) fp) B ifs fc)
    (he : ∀ (s : Shared) (H : Hp) (C : Addr) (cl : List (Str × Addr)) (fp : List Addr), DE (X.blk s H scope (compEnvC scope cl C X.env) fp) B elt (.own n) fe) (hs : ∀ x, foldedSetIterable iter X.env x = pure x := by intro _; rfl) :
    DE X B (.ListComp elt [⟨tg, iter, ifs, 0⟩] scope pos) (.own (n + 1)) (gComp fi t fc fe (own.map (·.2))) := by
  obtain ⟨g, pg, kg⟩ := hg.ok
  exact PE.imp (pe_lc hc hN hi ok (fun s H C cl fp => pg s H scope C cl fp hol) ht he hs) fun σ H Q q => tD_lcC (fun _ _ _ h => h) kg q
end
end GK

namespace GK
open PySem PySem.Spec PyProof.Rows L2
/-! ### int(a truth) -/
def gIntB : List D → (D → Prop) → Prop
  | [.bl b], R => R (.int (if b then 1 else 0))
  | _, _ => False
theorem gIntB_bl {b : Bool} {R : D → Prop} : gIntB [.bl b] R = R (.int (if b then 1 else 0)) := rfl
theorem opN_intB {K : PySem.W.Frag} {m1 m : Mode} : OpN K (fun xs H Q => (∃ i, xs = [.int i] ∧ Q (.int i) H) ∨ ∃ k, xs = [.bl k] ∧ Q (.int (if k then 1 else 0)) H) [m1] m gIntB := by
  intro B F H vs ds fp R Q w hv hf hg k
  unfold gIntB at hg
  split at hg
  · obtain ⟨v, rfl, h⟩ := hv.one
    obtain ⟨rfl, rfl⟩ := h.bl
    exact .inr ⟨_, rfl, k.int w hg⟩
  · exact hg.elim
section
variable {X : Cx} {e : Expr} {p pos : Pos} {m m1 : Mode} {f : FE}
theorem de_intB (hz : X.mg "int" = none) (ha : DE X B e m1 f) (hg : Gl X "int" := by rfl) (he : starEach [e] X.env = (false, eval e X.env) :: starEach [] X.env := by rfl) (hpl : (backTo pos (starEach [] X.env)).any (·.1) = false := by rfl) :
    DE X B (.Call (.Name "int" p) [e] [] pos) m (fArgs gIntB (fCons f fNil)) := de_Ty call_int1 opN_intB hg hz (by decide +kernel) (da_cons ha da_nil he) (by decide) (by decide) he hpl
end
end GK
namespace GK
/-- what stands behind a first part is shown once, for all ways through it -/
theorem seq_cut {A r : FS} {E : DEnds} {ρ : Env} (P : Env → Prop) (h1 : ∀ N : Env → Prop, (∀ ρ, P ρ → N ρ) → A { E with nx := N } ρ) (h2 : ∀ ρ, P ρ → r E ρ) : gSeq A r E ρ := h1 _ h2
theorem seq_cut2 {a b r : FS} {E : DEnds} {ρ : Env} (P : Env → Prop) (h1 : ∀ N : Env → Prop, (∀ ρ, P ρ → N ρ) → gSeq a b { E with nx := N } ρ) (h2 : ∀ ρ, P ρ → r E ρ) : gSeq a (gSeq b r) E ρ := h1 _ h2
end GK

namespace GK
open PySem PySem.Spec PyProof.Rows L2
/-! ### a method that changes its object, called at a place -/
section
variable {K : PySem.W.Frag} {F F' H : Hp}
theorem OwnL.det {P P' : V → D → List Addr → Prop} (hp : ∀ v d f g, P v d f → P' v d g → f = g) : ∀ {vs : List V} {ds : List D} {f g : List Addr}, OwnL P vs ds f → OwnL P' vs ds g → f = g
  | [], [], _, _, h, h' => (show _ = [] from h).trans (show _ = [] from h').symm
  | v :: vs, d :: ds, _, _, ⟨f1, f2, e, h, t⟩, ⟨g1, g2, e', h', t'⟩ => by rw [e, e', hp v d f1 g1 h h', OwnL.det hp t t']
  | [], _ :: _, _, _, h, _ => by cases h
  | _ :: _, [], _, _, h, _ => by cases h
theorem Own.det (hF : Same F F') : ∀ {n : Nat} {v : V} {d : D} {f g : List Addr}, Own K F H n v d f → Own K F' H n v d g → f = g
  | 0, v, d, f, g, h, h' => by rw [h.2, h'.2]
  | n + 1, v, .lst ds, f, g, ⟨a, vs, f1, e, h, ef, t⟩, ⟨a', vs', f1', e', h', ef', t'⟩ => by
    subst e
    cases e'
    rw [h] at h'
    cases h'
    exact ef.trans ((congrArg (a :: ·) (OwnL.det (P := Own K F H n) (P' := Own K F' H n) (fun v d f g h h' => Own.det hF h h') t t')).trans ef'.symm)
  | n + 1, v, .dK es, f, g, ⟨a, vs, f1, e, h, ef, _, t⟩, ⟨a', vs', f1', e', h', ef', _, t'⟩ => by
    subst e
    cases e'
    rw [h] at h'
    cases h'
    exact ef.trans ((congrArg (a :: ·) (OwnL.det (P := Own K F H n) (P' := Own K F' H n) (fun v d f g h h' => Own.det hF h h') t t')).trans ef'.symm)
  | n + 1, v, .dT es, f, g, ⟨a, vs, f1, e, h, ef, _, t⟩, ⟨a', vs', f1', e', h', ef', _, t'⟩ => by
    subst e
    cases e'
    rw [h] at h'
    cases h'
    exact ef.trans ((congrArg (a :: ·) (OwnL.det (P := Own K F H n) (P' := Own K F' H n) (fun v d f g h h' => Own.det hF h h') t t')).trans ef'.symm)
  | n + 1, v, .obj C es, f, g, ⟨a, dx, vs, f1, e, h, ef, _, t⟩, ⟨a', dx', vs', f1', e', h', ef', _, t'⟩ => by
    subst e
    cases e'
    rw [h] at h'
    cases h'
    exact ef.trans ((congrArg (a :: ·) (OwnL.det (P := Own K F H n) (P' := Own K F' H n) (fun v d f g h h' => Own.det hF h h') t t')).trans ef'.symm)
  | n + 1, v, .tup ds, f, g, ⟨a, vs, e, h, t⟩, ⟨a', vs', e', h', t'⟩ => by
    subst e
    cases e'
    rw [hF _ _ h] at h'
    cases h'
    exact OwnL.det (P := Own K F H n) (P' := Own K F' H n) (fun v d f g h h' => Own.det hF h h') t t'
  | n + 1, v, .non, f, g, h, h' => by rw [show f = [] from h.2, show g = [] from h'.2]
  | n + 1, v, .bl _, f, g, h, h' => by rw [show f = [] from h.2, show g = [] from h'.2]
  | n + 1, v, .int _, f, g, h, h' => by rw [show f = [] from h.2, show g = [] from h'.2]
  | n + 1, v, .str _, f, g, h, h' => by rw [show f = [] from h.2, show g = [] from h'.2]
  | n + 1, v, .raw _, f, g, h, h' => by rw [show f = [] from h.2, show g = [] from h'.2]
  | n + 1, v, .kp _, f, g, h, h' => by rw [show f = [] from h.2, show g = [] from h'.2]
end
section
variable {K : PySem.W.Frag} {B fp f : List Addr} {Pn : List V} {Z0 F0 F H F' H' : Hp} {σ : L2.St} {ρ : Env}
theorem StOk.stepF (S : StOk K B Pn Z0 F0 F H σ ρ fp) (s : StepM B f F H F' H') (hf : ∀ a ∈ f, a ∉ fp ∧ Z0 a = none) : StOk K B Pn Z0 F0 F' H' σ ρ fp where
  wf := s.wf
  own := S.own.mono s.fs fun a ha o e => s.same a o (S.out a ha).2.1 (fun z => (hf a z).1 ha) e
  nd := S.nd
  out := fun a ha => by
    obtain ⟨o, e, m⟩ := S.own.there a ha
    obtain ⟨h1, h2, h3⟩ := S.out a ha
    refine ⟨?_, h2, h3⟩
    cases x : F' a with
    | none => rfl
    | some u =>
      exfalso
      have e2 := s.same a o h2 (fun z => (hf a z).1 ha) e
      rcases s.fresh a u x with z | z | z | z
      · rw [h1] at z; cases z
      · rw [e] at z; cases z
      · obtain ⟨_, y, ey, er⟩ := rdH_some (s.wf.sub a u x)
        rw [e2] at ey
        cases ey
        rw [mut_er m] at er
        subst er
        cases o <;> first | exact m | exact z
      · exact (hf a z).1 ha
  z := fun a o e => s.same a o (fun hb => by rw [S.zB a hb] at e; cases e) (fun z => by rw [(hf a z).2] at e; cases e) (S.z a o e)
  zB := S.zB
  f := fun a u e => s.fs a u (S.f a u e)
  fr := fun a u e => by
    rcases s.fresh a u e with z | z | z | z
    · exact S.fr a u z
    · refine .inr (.inl ?_)
      cases q : Z0 a with
      | none => rfl
      | some o => rw [S.z a o q] at z; cases z
    · exact .inr (.inr z)
    · exact .inr (.inl (hf a z).2)
  pn := S.pn
end
def atObj (ρ : Env) (i n : Nat) (p : List PSt) (C : Addr) (mt : Str) (k : D → D → Prop) : Prop := match slot ρ i with
  | some (m, d) => ∃ e, m = n + 1 + p.length ∧ subP d p = some e ∧ isObjD C mt e ∧ k d e
  | none => False
theorem atObj.inv {ρ : Env} {i n : Nat} {p : List PSt} {C : Addr} {mt : Str} {k : D → D → Prop} (h : atObj ρ i n p C mt k) : ∃ d e, slot ρ i = some (n + 1 + p.length, d) ∧ subP d p = some e ∧ isObjD C mt e ∧ k d e := by
  unfold atObj at h
  split at h
  · rename_i m d q
    obtain ⟨e, rfl, h1, h2, h3⟩ := h
    exact ⟨d, e, q, h1, h2, h3⟩
  · exact h.elim
section
variable {X : Cx} {B : List Addr} {e o : Expr} {es : List Expr} {i pin k k' n : Nat} {C fa : Addr} {fd : FuncData} {ps : List Str} {ds : List Value} {dvs : List V} {dd : List D} {m : Mode} {ms : List Mode} {g : FP} {fs : FA} {W : FSpecM} {apos pos : Pos} {mt : Str} {pl : Sem Bool}
/-- the call's end -/
theorem callM_end {Pn : List V} {Z0 F0 F2 H2 : Hp} {σ : L2.St} {ρ : Env} {fp : List Addr} {d d' : D} {p : List PSt} {v0 v : V} {vs : List V} {xs : List D} {R : D → Env → Prop} {Q : VK} (S2 : StOk X.K B Pn Z0 F0 F2 H2 σ ρ fp) (hs : slot ρ i = some (n + 1 + p.length, d)) (hsub : subP d p = some d') (hv0 : σ[i]? = some (some v0)) (hp : PathV B H2 v0 p v) (rl : RL X.K F2 vs xs)
    (hW : W d' xs fun r s' => R r (ρ.set i (some (n + 1 + p.length, setP d p s')))) (k : ∀ F' H' ρ' fp' v d f', StOk X.K B Pn Z0 F0 F' H' σ ρ' fp' → Val X.K m B F' H' v d f' → Apart B Z0 F' fp' f' → R d ρ' → Q v H') {E : XK} : spM X.K (n + 1) m W (v :: vs) H2 Q E := by
  obtain ⟨v1, f, fp1, e1, ow, T, ap1, sub1⟩ := S2.take hs
  rw [hv0] at e1
  cases e1
  obtain ⟨v', f', pv, ow', s2, nd2, kF⟩ := Own.pathF (B := B) T.wf (n := n + 1) ow ap1.2 (fun a ha => (ap1.1 a ha).2.1) hsub
  cases hp.det pv
  refine ⟨B, F2, v, vs, d', xs, f', _, rfl, S2.wf, ow', ⟨fun b hb => ⟨(ap1.1 b (s2 b hb)).1, (ap1.1 b (s2 b hb)).2.1⟩, nd2⟩, rl, hW, fun F' H' r dr fr s' f'' sM oM vM hM nM hR => ?_⟩
  have hff : ∀ a ∈ f', a ∉ fp1 ∧ Z0 a = none := fun a ha => ⟨(ap1.1 a (s2 a ha)).2.2.2, (ap1.1 a (s2 a ha)).2.2.1⟩
  have T2 := T.stepF sM hff
  have o2 : Own X.K F' H2 (n + 1 + p.length) v0 d f := ow.mono sM.fs fun _ _ _ h => h
  obtain ⟨n1, n2, n3⟩ := List.nodup_append.mp nM
  have notH : ∀ b ∈ f, ∃ u, H2 b = some u ∧ True := fun b hb => by
    obtain ⟨u, hu, _⟩ := ow.there b hb
    exact ⟨u, hu, trivial⟩
  have fresh : ∀ b ∈ f'' ++ fr, b ∈ f' ∨ (b ∉ f ∧ b ∉ fp1 ∧ Z0 b = none) := fun b hb => by
    rcases (hM b hb).1 with z | z
    · exact .inl z
    · refine .inr ⟨fun w => ?_, fun w => ?_, ?_⟩
      · obtain ⟨u, hu, _⟩ := notH b w
        rw [z] at hu; cases hu
      · obtain ⟨u, hu, _⟩ := T.own.there b w
        rw [z] at hu; cases hu
      · cases q : Z0 b with
        | none => rfl
        | some u => rw [S2.z b u q] at z; cases z
  obtain ⟨fp4, o6, nd6, sub6⟩ := kF F' (fun b => if b ∈ f' ∧ b ∉ f'' then none else H' b) s' f'' sM.fs (fun b hb hb' u e => by
    show (if b ∈ f' ∧ b ∉ f'' then none else H' b) = some u
    rw [if_neg fun z => hb' z.1]
    exact sM.same b u (ap1.1 b hb).2.1 hb' e) (oM.mono (fun _ _ h => h) fun b hb u e => by
    show (if b ∈ f' ∧ b ∉ f'' then none else H' b) = some u
    rw [if_neg fun z => z.2 hb]
    exact e) (fun b hb => (fresh b (List.mem_append_left _ hb)).imp id fun z => z.1) n1
  have cell : ∀ b ∈ fp4, ∃ u, H' b = some u ∧ Mut (some u) ∧ (b ∈ f' → b ∈ f'') := fun b hb => by
    obtain ⟨u, hu, mu⟩ := o6.there b hb
    have hu : (if b ∈ f' ∧ b ∉ f'' then none else H' b) = some u := hu
    split at hu
    · cases hu
    · rename_i c
      exact ⟨u, hu, mu, fun z => Classical.byContradiction fun y => c ⟨z, y⟩⟩
  have o8 : Own X.K F' H' (n + 1 + p.length) v0 (setP d p s') fp4 := o6.mono (fun _ _ h => h) fun b hb u e => by
    have e : (if b ∈ f' ∧ b ∉ f'' then none else H' b) = some u := e
    split at e
    · cases e
    · exact e
  have at4 : ∀ b ∈ fp4, b ∈ f'' ∨ (b ∈ f ∧ b ∉ f') := fun b hb => by
    obtain ⟨u, _, _, c⟩ := cell b hb
    by_cases q : b ∈ f''
    · exact .inl q
    · exact .inr ⟨(sub6 b hb).elim id fun z => absurd z q, fun z => q (c z)⟩
  have ap4 : Apart B Z0 F' fp1 fp4 := ⟨fun b hb => by
    rcases at4 b hb with q | q
    · obtain ⟨_, q2, q3⟩ := hM b (List.mem_append_left _ q)
      rcases fresh b (List.mem_append_left _ q) with z | z
      · exact ⟨q2, q3, (hff b z).2, (hff b z).1⟩
      · exact ⟨q2, q3, z.2.2, z.2.1⟩
    · obtain ⟨a1, a2, a3, a4⟩ := ap1.1 b q.1
      refine ⟨?_, a2, a3, a4⟩
      obtain ⟨u, hu, mu, _⟩ := cell b hb
      cases x : F' b with
      | none => rfl
      | some y =>
        exfalso
        rcases sM.fresh b y x with z | z | z | z
        · rw [a1] at z; cases z
        · obtain ⟨u2, hu2, _⟩ := notH b q.1
          rw [z] at hu2; cases hu2
        · obtain ⟨_, y2, ey, er⟩ := rdH_some (sM.wf.sub b y x)
          rw [hu] at ey
          cases ey
          rw [mut_er mu] at er
          subst er
          cases u <;> first | exact mu | exact z
        · exact q.2 z, nd6⟩
  have ndA : (fp1 ++ fp4).Nodup := List.nodup_append.mpr ⟨T2.nd, nd6, fun a ha b hb e => by
    subst e
    exact (ap4.1 a hb).2.2.2 ha⟩
  obtain ⟨fp5, o9, nd9, sub9⟩ := OwnE.set o8 T2.own ndA (i := i) (by rw [List.length_set]; exact slot_lt hs)
  rw [set_self hv0, List.set_set] at o9
  have S5 : StOk X.K B Pn Z0 F0 F' H' σ (ρ.set i (some (n + 1 + p.length, setP d p s'))) fp5 := ⟨T2.wf, o9, nd9, fun a ha => by
    rcases sub9 a ha with z | z
    · exact T2.out a z
    · obtain ⟨h1, h2, h3, _⟩ := ap4.1 a z
      exact ⟨h1, h2, h3⟩, T2.z, T2.zB, T2.f, T2.fr, T2.pn⟩
  refine k F' H' _ fp5 r dr fr S5 vM ⟨fun b hb => ?_, n2⟩ hR
  obtain ⟨_, q2, q3⟩ := hM b (List.mem_append_right _ hb)
  have fb := fresh b (List.mem_append_right _ hb)
  have z0 : Z0 b = none := fb.elim (fun z => (hff b z).2) fun z => z.2.2
  refine ⟨q2, q3, z0, fun z => ?_⟩
  rcases sub9 b z with y | y
  · exact fb.elim (fun w => (hff b w).1 y) fun w => w.2.1 y
  · rcases at4 b y with w | w
    · exact n3 b w b hb rfl
    · exact fb.elim w.2 fun c => c.1 w.1
/-- a method that changes its object, by its promise -/
structure CalMM (P : Program) (w : World) (K : PySem.W.Frag) (mg : Str → Option Value) (base : Heap) (C : Addr) (mt : Str) (k n : Nat) (ps : List Str) (m : Mode) (dd : List D) (W : FSpecM) : Prop where
  cl : Cls K C
  ex : ∃ (f : Addr) (fd : FuncData) (ds : List Value) (dvs : List V), FnOk P w K mg base CX0 k f fd ps (spM K (n + 1) m W) ∧ Meth K C mt f ∧ Binds K fd ps ds ∧ Vals dvs ds ∧ Dflt K dvs dd
theorem dm_CM (pl : Sem Bool) (c : CalMM X.prog X.w X.K X.mg X.base C mt k n ps m dd W) (hr : Room k' X.A) (ho : DP X B o i g) (ha : DA X B (e :: es) ms fs) (hk : k ≤ k' := by decide) (hms : ∀ m ∈ ms, m = .own 0 := by simp)
    (hst : starEach (e :: es) X.env = (false, eval e X.env) :: starEach es X.env := by rfl) (hpl : (backTo pos (starEach es X.env)).any (·.1) = false := by rfl)
    (ht : eval (.Call (.Attribute o mt apos) (e :: es) [] pos) X.env = (do
      let ov ← eval o X.env
      standAt apos.atName
      let (f, first) ← holding [ov] (getMethod ov mt pl)
      callWith pos f first (backTo pos (starEach (e :: es) X.env)) (backToKw pos (keywordEach [] X.env))) := by rfl) :
    DM X B (.Call (.Attribute o mt apos) (e :: es) [] pos) pin m (fun ρ R => g ρ fun p => (atObj ρ i n p C mt fun _ _ => True) ∧ fs ρ fun xs => atObj ρ i n p C mt fun d x => W x (xs ++ dd) fun r s' => R r (ρ.set i (some (n + 1 + p.length, setP d p s')))) := by
  obtain ⟨f, fd, ds, dvs, F, hm, hb, hd, hdd⟩ := c.ex
  refine PE.imp (pe_meth ho c.cl hm F (hr.mono hk) hb hd pass0 ha hst hpl ht) fun σ H Q ⟨Pn, Z0, F0, F, ρ, fp, R, hpl, S, hg, kk⟩ => ?_
  refine ⟨F, ρ, fp, _, S.base, hg, fun F1 H1 p v v0 s1 hv0 hp ⟨h0, hf⟩ => ?_⟩
  have S1 := S.step s1 fun a h => (by cases h)
  obtain ⟨d, e1, hs, hsub, hx, _⟩ := h0.inv
  obtain ⟨es', rfl, hl'⟩ := hx.inv
  obtain ⟨v1, f1, fp1, ev, ow, T, ap1, sub1⟩ := S1.take hs
  rw [hv0] at ev
  cases ev
  obtain ⟨v', f', pv, ow', s2, nd2, _⟩ := Own.path (B := B) T.wf (n := n + 1) ow ap1.2 (fun a ha => (ap1.1 a ha).2.1) hsub
  cases hp.det pv
  obtain ⟨a, dx, gs, f3, rfl, ha1, ef, hkk, t⟩ := ow'
  refine ⟨a, dx, gs, rfl, ha1, lookup_none hkk hl', F1, ρ, fp, _, S1.base, hf, fun F2 H2 vs xs fx st2 hv2 o2 n2 hW => ?_⟩
  have S2 := S1.step st2 fun a h => (by cases h)
  obtain ⟨d', e2, hs', hsub', hx', hW'⟩ := hW.inv
  exact callM_end S2 hs' hsub' hv0 (hp.same st2.same) ((hv2.rl0 hms).append (hdd F2)) hW' kk
theorem dm_CM0 (pl : Sem Bool) (c : CalMM X.prog X.w X.K X.mg X.base C mt k n ps m dd W) (hr : Room k' X.A) (ho : DP X B o i g) (hk : k ≤ k' := by decide)
    (ht : eval (.Call (.Attribute o mt apos) [] [] pos) X.env = (do
      let ov ← eval o X.env
      standAt apos.atName
      let (f, first) ← holding [ov] (getMethod ov mt pl)
      callWith pos f first (backTo pos (starEach [] X.env)) (backToKw pos (keywordEach [] X.env))) := by rfl) :
    DM X B (.Call (.Attribute o mt apos) [] [] pos) pin m (fun ρ R => g ρ fun p => atObj ρ i n p C mt fun d x => W x dd fun r s' => R r (ρ.set i (some (n + 1 + p.length, setP d p s')))) := by
  obtain ⟨f, fd, ds, dvs, F, hm, hb, hd, hdd⟩ := c.ex
  refine PE.imp (pe_meth0 ho c.cl hm F (hr.mono hk) hb hd pass0 ht) fun σ H Q ⟨Pn, Z0, F0, F, ρ, fp, R, hpl, S, hg, kk⟩ => ?_
  refine ⟨F, ρ, fp, _, S.base, hg, fun F1 H1 p v v0 s1 hv0 hp h0 => ?_⟩
  have S1 := S.step s1 fun a h => (by cases h)
  obtain ⟨d, e1, hs, hsub, hx, hW⟩ := h0.inv
  obtain ⟨es', rfl, hl'⟩ := hx.inv
  obtain ⟨v1, f1, fp1, ev, ow, T, ap1, sub1⟩ := S1.take hs
  rw [hv0] at ev
  cases ev
  obtain ⟨v', f', pv, ow', s2, nd2, _⟩ := Own.path (B := B) T.wf (n := n + 1) ow ap1.2 (fun a ha => (ap1.1 a ha).2.1) hsub
  cases hp.det pv
  obtain ⟨a, dx, gs, f3, rfl, ha1, ef, hkk, t⟩ := ow'
  refine ⟨a, dx, gs, rfl, ha1, lookup_none hkk hl', ?_⟩
  exact callM_end (E := fun _ _ _ => False) (vs := [] ++ dvs) S1 hs hsub hv0 hp (hdd F1) hW kk
end
end GK

namespace GK
open PySem PySem.Spec PyProof.Rows L2
/-! ### a method that changes nothing, of an object that stays owned -/
section
variable {X : Cx} {B : List Addr} {e o : Expr} {es : List Expr} {k k' n : Nat} {C : Addr} {ps : List Str} {dd : List D} {m m1 : Mode} {ms : List Mode} {fo f1 : FE} {fs : FA} {W : BSpec} {apos p pos : Pos} {mt : Str}
theorem de_CmR (pl : Sem Bool) (c : CalM X.prog X.w X.K X.mg X.base C mt k ps (.own n) dd W) (hr : Room k' X.A) (ho : DE X B o m1 fo) (ha : DA X B (e :: es) ms fs) (hk : k ≤ k' := by decide)
    (hst : starEach (e :: es) X.env = (false, eval e X.env) :: starEach es X.env := by rfl) (hpl : (backTo pos (starEach es X.env)).any (·.1) = false := by rfl)
    (ht : eval (.Call (.Attribute o mt apos) (e :: es) [] pos) X.env = (do
      let ov ← eval o X.env
      standAt apos.atName
      let (f, first) ← holding [ov] (getMethod ov mt pl)
      callWith pos f first (backTo pos (starEach (e :: es) X.env)) (backToKw pos (keywordEach [] X.env))) := by rfl) :
    DE X B (.Call (.Attribute o mt apos) (e :: es) [] pos) (.own n) (fun ρ R => fo ρ fun x => isObjD C mt x ∧ fs ρ fun xs => W B (x :: (xs ++ dd)) fun d => flatN n d = true ∧ R d) := by
  obtain ⟨f, fd, ds, dvs, F, hm, hb, hd, hdd⟩ := c.ex
  refine PE.imp (pe_meth ho c.cl hm F (hr.mono hk) hb hd pass0 ha hst hpl ht) fun σ H Q ⟨F, ρ, fp, R, S, hf, kk⟩ => ?_
  refine ⟨F, ρ, fp, _, S, hf, fun F1 H1 v x g1 s1 hv o1 n1 ⟨hx, hg⟩ => ?_⟩
  obtain ⟨es', rfl, hl'⟩ := hx.inv
  have hx0 : GK.R X.K (rdH B H1) v (.obj C es') := hv.rd s1.wf fun a ha => (o1 a ha).2.2
  obtain ⟨a, d2, l2, ew, eb, hkk, _⟩ := hx0.objI
  subst ew
  refine ⟨a, d2, l2, rfl, ins_of s1.wf eb, lookup_none hkk hl', F1, ρ, fp, _, S.step s1 (fun a ha => by cases ha), hg, fun F2 H2 vs xs f2 s2 hv2 o2 n2 hW => ?_⟩
  have hx1 : GK.R X.K (rdH B H2) (.ref a) (.obj C es') := hx0.mono (rdH_same s2.same)
  exact call_rd s2.wf (.cons hx1 ((hv2.rd s2.wf fun a ha => (o2 a ha).2.2).append (hdd _))) hW ((kk.after s1 (A1 := []) fun a ha => (by cases ha)).after s2 (A1 := f2) fun a ha => (o2 a ha).1)
theorem de_ownLenR (c : CalM X.prog X.w X.K X.mg X.base C "__len__" k ps (.own 0) [] W) (hr : Room k' X.A) (hz : X.mg "len" = none) (ha : DE X B e m1 f1) (hk : k + 1 ≤ k' := by decide) (hg : Gl X "len" := by rfl) (he : starEach [e] X.env = (false, eval e X.env) :: starEach [] X.env := by rfl) (hpl : (backTo pos (starEach [] X.env)).any (·.1) = false := by rfl) :
    DE X B (.Call (.Name "len" p) [e] [] pos) m (fun ρ R => f1 ρ fun x => isObj C x ∧ W B [x] fun d => flatN 0 d = true ∧ ∃ n : Int, d = .int n ∧ 0 ≤ n ∧ n < 2 ^ 63 ∧ R (.int n)) := by
  obtain ⟨f, fd, ds, dvs, F, hm, hbd, hd, hdd⟩ := c.ex
  obtain ⟨rfl, rfl⟩ := dflt_nil hd hdd
  refine PE.imp (pe_callB (call_ownLen F (hr.mono hk) hbd hm.at_ hm.fn) hg hz PySem.boot_len (da_cons ha da_nil he) (by decide) (by decide) he hpl) fun σ H Q ⟨F, ρ, fp, R, S, hf, kk⟩ => ?_
  refine ⟨F, ρ, fp, fun xs => ∃ x, xs = [x] ∧ isObj C x ∧ W B [x] fun d => flatN 0 d = true ∧ ∃ n : Int, d = .int n ∧ 0 ≤ n ∧ n < 2 ^ 63 ∧ R (.int n), S, ?_, fun F1 H1 vs xs fp1 s1 hv o1 n1 ⟨x, ex, hx, hW⟩ => ?_⟩
  · show f1 ρ fun x => ∃ y, [x] = [y] ∧ isObj C y ∧ _
    have : (fun x => ∃ y, [x] = [y] ∧ isObj C y ∧ W B [y] fun d => flatN 0 d = true ∧ ∃ n : Int, d = .int n ∧ 0 ≤ n ∧ n < 2 ^ 63 ∧ R (.int n)) = fun x => isObj C x ∧ W B [x] fun d => flatN 0 d = true ∧ ∃ n : Int, d = .int n ∧ 0 ≤ n ∧ n < 2 ^ 63 ∧ R (.int n) := by
      funext x
      refine propext ⟨fun ⟨y, e, h⟩ => ?_, fun h => ⟨x, rfl, h⟩⟩
      cases e
      exact h
    rw [this]
    exact hf
  subst ex
  have hrd := hv.rd s1.wf fun a ha => (o1 a ha).2.2
  cases hrd with
  | cons hx2 t =>
    cases t
    obtain ⟨es, rfl⟩ := hx.inv
    obtain ⟨a2, d2, l2, ew, eb, _, _⟩ := hx2.objI
    refine ⟨_, rfl, ⟨a2, d2, l2, ew, ins_of s1.wf eb⟩, ?_⟩
    have k2 := kk.after s1 (A1 := []) fun a ha => (by cases ha)
    refine call_rd (A := []) s1.wf (.cons hx2 .nil) hW fun F3 H3 v3 d3 f3 s3 hv3 o3 n3 ⟨n, ed, h0, h1, hb⟩ => ?_
    subst ed
    obtain ⟨rfl, _⟩ := hv3.int
    exact ⟨n, rfl, h0, h1, (k2.after s3 (A1 := []) fun a ha => (by cases ha)).int s3.wf hb⟩
end
end GK

namespace GK
open PySem PySem.Spec PyProof.Rows L2
/-! ### x += e, x -= e, of numbers -/
section
variable {X : Cx} {B : List Addr} {e : Expr} {i pin : Nat} {x : Str} {pos pos' : Pos} {m mr : Mode} {f : FE}
def atInt (ρ : Env) (i : Nat) (k : Int → Prop) : Prop := match slot ρ i with
  | some (n, .int a) => n = 0 ∧ k a
  | _ => False
theorem atInt.inv {ρ : Env} {i : Nat} {k : Int → Prop} (h : atInt ρ i k) : ∃ a, slot ρ i = some (0, .int a) ∧ k a := by
  unfold atInt at h
  split at h
  · rename_i n a q
    obtain ⟨rfl, h⟩ := h
    exact ⟨a, q, h⟩
  · exact h.elim
def intOf (R : Int → Prop) : D → Prop
  | .int i => R i
  | _ => False
theorem tD_aug {h : Int → Int → Int} {Dn : Ends} {σ : L2.St} {H : Hp} (hp : pin ≤ i) (q : tDS X.K B pin mr (fun E ρ => atInt ρ i fun a => f ρ (intOf fun b => E.nx (ρ.set i (some (0, .int (h a b)))))) Dn σ H) : tAug i (tD X.K B m f) (ipI h) Dn σ H := by
  obtain ⟨Pn, Z0, F0, F, ρ, fp, E, hpl, S, hg, L⟩ := q
  obtain ⟨a, hs, hf⟩ := hg.inv
  obtain ⟨v, g, fp', ev, ow, T, ap, _⟩ := S.take hs
  have hv0 : v = .int a := (show Val X.K (.own 0) B F H v (.int a) g from ow).int.1
  subst hv0
  refine ⟨_, ev, F, ρ, fp, _, S.base, hf, fun F1 H1 w d g1 s1 hv o1 n1 hR => ?_⟩
  cases d <;> try exact (show False from hR).elim
  rename_i b
  obtain ⟨rfl, _⟩ := hv.int
  have S1 := S.step s1 fun a h => (by cases h)
  obtain ⟨fp2, S2⟩ := S1.set (n := 0) (f := []) (i := i) (v := .int (h a b)) (d := .int (h a b)) ⟨.int _, rfl⟩ .nil (slot_lt hs) (by omega)
  exact ⟨a, b, rfl, rfl, L.nx F1 H1 _ _ fp2 S2 hR⟩
theorem ds_augAdd (i : Nat) (hN : X.N.Nodup) (hi : X.N[i]? = some x) (hx : Loc X.env.scope x) (hp : pin ≤ i) (he : DE X B e m f) (hf : X.fn x = true ∨ X.env.scope.names.lookup x = some .local := by first | exact .inl rfl | exact .inr rfl | assumption) :
    DS X B (.AugAssign (.Name x pos') .Add e pos) pin mr (fun E ρ => atInt ρ i fun a => f ρ (intOf fun b => E.nx (ρ.set i (some (0, .int (a + b)))))) :=
  PS.imp (ps_aug hN hi hx he ip_add hf) fun Dn σ H q => tD_aug hp q
theorem ds_augSub (i : Nat) (hN : X.N.Nodup) (hi : X.N[i]? = some x) (hx : Loc X.env.scope x) (hp : pin ≤ i) (he : DE X B e m f) (hf : X.fn x = true ∨ X.env.scope.names.lookup x = some .local := by first | exact .inl rfl | exact .inr rfl | assumption) :
    DS X B (.AugAssign (.Name x pos') .Sub e pos) pin mr (fun E ρ => atInt ρ i fun a => f ρ (intOf fun b => E.nx (ρ.set i (some (0, .int (a - b)))))) :=
  PS.imp (ps_aug hN hi hx he ip_sub hf) fun Dn σ H q => tD_aug hp q
end
end GK

namespace GK
open PySem PySem.Spec PyProof.Rows L2
/-! ### a comprehension whose name an inner one uses -/
section
variable {X : Cx} {B : List Addr} {elt iter : Expr} {ifs : List Expr} {scope : Scope} {x : Str} {p pos : Pos} {fi : FI} {fe : FE} {fc : FT}
theorem de_lcN (i n : Nat) (hc : X.calm = true) (hN : X.N.Nodup) (hi : DI X B (.Name x p) iter fi) (ok : BlkOk X.N X.env.scope scope [(x, i)]) (hx : X.N[i]? = some x) (hl : ∀ C cl, (compEnvC scope cl C X.env).scope.names.lookup x = some .cell) (hl2 : (scope.names.lookup x == some .cell) = true)
    (ht : ∀ (s : Shared) (H : Hp) (C : Addr) (cl : List (Str × Addr)) (fp : List Addr), DTs (X.blk s H scope (compEnvC scope cl C X.env) fp) B ifs fc)
    (he : ∀ (s : Shared) (H : Hp) (C : Addr) (cl : List (Str × Addr)) (fp : List Addr), DE (X.blk s H scope (compEnvC scope cl C X.env) fp) B elt (.own n) fe) (hs : ∀ x, foldedSetIterable iter X.env x = pure x := by intro _; rfl) :
    DE X B (.ListComp elt [⟨.Name x p, iter, ifs, 0⟩] scope pos) (.own (n + 1)) (gComp fi (tgN i) fc fe [i]) :=
  PE.imp (pe_lc (own := [(x, i)]) (g := gName i) hc hN hi ok (fun s H C cl fp => pg_name hN hx (.inr (hl C cl)) (.inl hl2)) ht he hs) fun σ H Q q => tD_lc (vs := [i]) (t := tgN i) (fun _ _ _ h => h) (fun B F H σ ρ ρ' fp v d S r e Q k => by
    unfold tgN at e
    split at e
    · rename_i hi'
      cases e
      obtain ⟨fp', S'⟩ := S.set (n := 0) (f := []) (i := i) ⟨r, rfl⟩ .nil hi' (Nat.zero_le _)
      refine k _ fp' S' ?_
      show ((σ.set i none).set i (some v)).set i none = σ.set i none
      rw [List.set_set, List.set_set]
    · cases e) q
theorem kg_name (i : Nat) : ∀ (B : List Addr) (F H : Hp) (σ : L2.St) (ρ ρ' : Env) (fp : List Addr) (v : V) (d : D), StOk X.K B [] noH noH F H (L2.wipe σ [i]) ρ fp → R X.K F v d → tgN i d ρ = some ρ' →
      ∀ Q : L2.St → Hp → Prop, (∀ σ' fp', StOk X.K B [] noH noH F H σ' ρ' fp' → L2.wipe σ' [i] = L2.wipe σ [i] → Q σ' H) → gName i v (L2.wipe σ [i]) H Q := fun B F H σ ρ ρ' fp v d S r e Q k => by
  unfold tgN at e
  split at e
  · rename_i hi'
    cases e
    obtain ⟨fp', S'⟩ := S.set (n := 0) (f := []) (i := i) ⟨r, rfl⟩ .nil hi' (Nat.zero_le _)
    refine k _ fp' S' ?_
    show ((σ.set i none).set i (some v)).set i none = σ.set i none
    rw [List.set_set, List.set_set]
  · cases e
theorem ds_setLcN (j i n : Nat) {pin : Nat} {mr : Mode} {y : Str} {py spos : Pos} (hc : X.calm = true) (hN : X.N.Nodup) (hy : X.N[j]? = some y) (hyl : X.env.scope.names.lookup y = some .local) (hp : pin ≤ j)
    (hsw : swapsWith (.ListComp elt [⟨.Name x p, iter, ifs, 0⟩] scope pos) (some (.Name y py)) spos.line X.env = pure true) (hi : DI X B (.Name x p) iter fi) (ok : BlkOk X.N X.env.scope scope [(x, i)]) (hx : X.N[i]? = some x) (hl : ∀ C cl, (compEnvC scope cl C X.env).scope.names.lookup x = some .cell) (hl2 : (scope.names.lookup x == some .cell) = true)
    (ht : ∀ (s : Shared) (H : Hp) (C : Addr) (cl : List (Str × Addr)) (fp : List Addr), DTs (X.blk s H scope (compEnvC scope cl C X.env) fp) B ifs fc)
    (he : ∀ (s : Shared) (H : Hp) (C : Addr) (cl : List (Str × Addr)) (fp : List Addr), DE (X.blk s H scope (compEnvC scope cl C X.env) fp) B elt (.own n) fe) (hs : ∀ x, foldedSetIterable iter X.env x = pure x := by intro _; rfl) :
    DS X B (.Assign [.Name y py] (.ListComp elt [⟨.Name x p, iter, ifs, 0⟩] scope pos) spos) pin mr (fun E ρ => gComp fi (tgN i) fc fe [i] ρ fun d => j < ρ.length ∧ E.nx (ρ.set j (some (n + 1, d)))) := by
  refine PS.imp (ps_setLc (own := [(x, i)]) (g := gName i) (tt := tDT X.K B fc) (te := tD X.K B (.own n) fe) hc hN hy hyl hsw hi ok (fun s H C cl fp => pg_name hN hx (.inr (hl C cl)) (.inl hl2)) ht he hs) fun Dn σ H ⟨Pn, Z0, F0, F, ρ, fp, E, hpl, S, hf, L⟩ => ?_
  refine tD_lc (vs := [i]) (t := tgN i) (Q := fun x H1 => Dn.nx (σ.set j (some x)) H1) (fun _ _ _ h => h) (kg_name i) (tDM_of (pin := pin) (K := X.K) ⟨Pn, Z0, F0, F, ρ, fp, fun d ρ' => j < ρ'.length ∧ E.nx (ρ'.set j (some (n + 1, d))), hpl, S, hf, fun F' H' ρ' fp' v d f' S' hv ap hR => ?_⟩)
  obtain ⟨fp2, S2⟩ := S'.set hv ap hR.1 (by omega)
  exact L.nx F' H' _ _ fp2 S2 hR.2
end
end GK

namespace GK
open PySem PySem.Spec PyProof.Rows L2
/-! ### a walk over a new list whose items the loop's name owns -/
section
variable {K : PySem.W.Frag} {B fp : List Addr} {Pn : List V} {Z0 Z' F0 F H F' H' : Hp} {σ σ' : L2.St} {ρ ρ' : Env}
theorem StOk.shrink (S : StOk K B Pn Z' F0 F H σ ρ fp) (s : Same Z0 Z') : StOk K B Pn Z0 F0 F H σ ρ fp where
  wf := S.wf
  own := S.own
  nd := S.nd
  out := fun a ha => by
    obtain ⟨h1, h2, h3⟩ := S.out a ha
    exact ⟨h1, h2, s.free h3⟩
  z := fun a o e => S.z a o (s a o e)
  zB := fun a ha => s.free (S.zB a ha)
  f := S.f
  fr := fun a u e => (S.fr a u e).imp id fun z => z.imp (fun y => s.free y) id
  pn := S.pn
/-- back from a later base -/
theorem StOk.unbaseG {fp' : List Addr} (S : StOk K B Pn Z0 F0 F H σ ρ fp) (zp : Same Z0 Z') (T : StOk K B Pn Z' F F' H' σ' ρ' fp') : StOk K B Pn Z0 F0 F' H' σ' ρ' fp' := by
  refine ⟨T.wf, T.own, T.nd, fun a ha => ⟨(T.out a ha).1, (T.out a ha).2.1, zp.free (T.out a ha).2.2⟩, fun a o e => T.z a o (zp a o e), S.zB, fun a u e => T.f a u (S.f a u e), fun a u e => ?_, T.pn⟩
  rcases T.fr a u e with z | z | z
  · exact S.fr a u z
  · exact .inr (.inl (zp.free z))
  · exact .inr (.inr z)
end
def tgO (i n : Nat) : D → Env → Option Env := fun d ρ => if i < ρ.length then some (ρ.set i (some (n, d))) else none
def gForO (f : FE) (i n : Nat) (gb : FS) : FS := fun E ρ => f ρ (xsOf fun xs => forD (tgO i n) gb xs E ρ)
section
variable {X : Cx} {B : List Addr} {pin : Nat} {mr : Mode} {gb : FS} {f : FE} {pos p : Pos} {x : Str}
theorem ds_forO (i n : Nat) {iter : Expr} {body : List Stmt} (hp : PassesOwn (model X.prog X.w) X.A X.env X.xe) (hc : X.calm = true) (he : DE X B iter (.own (n + 1)) f) (hN : X.N.Nodup) (hi : X.N[i]? = some x) (hx : Loc X.env.scope x) (hpi : pin ≤ i) (hb : DSs X B body pin mr gb)
    (hs : ∀ x, foldedSetIterable iter X.env x = pure x := by intro _; rfl) (hf : X.fn x = true ∨ X.env.scope.names.lookup x = some .local := by first | exact .inl rfl | exact .inr rfl | assumption) : DS X B (.For (.Name x p) iter body [] pos) pin mr (gForO f i n gb) := by
  refine PS.imp (ps_for hp hc (pi_list he) (pg_name hN hi hx hf) hb hs) fun Dn σ H ⟨Pn, Z0, F0, F, ρ, fp, E, hpl, S, hg, L⟩ => ?_
  refine ⟨F, ρ, fp, _, S.base, hg, fun F1 H1 v d f1 s1 hv o1 n1 hR => ?_⟩
  cases d <;> try exact (show False from hR).elim
  rename_i xs
  obtain ⟨a, vs, g, rfl, ha, ef, ow⟩ := hv
  subst ef
  have S1 := S.step s1 fun a h => (by cases h)
  refine ⟨a, rfl, ⟨vs, .inl (.inl ha)⟩, ?_⟩
  have hlen : vs.length = xs.length := ow.len
  have free : ∀ b ∈ a :: g, H b = none ∧ F1 b = none ∧ b ∉ B ∧ b ∉ fp ∧ Z0 b = none := fun b hb => by
    obtain ⟨h1, h2, h3⟩ := o1 b hb
    have h1 : H b = none := h1.elim (fun z => nomatch z) id
    refine ⟨h1, h2, h3, fun z => ?_, ?_⟩
    · obtain ⟨u, hu, _⟩ := S.own.there b z
      rw [h1] at hu; cases hu
    · cases q : Z0 b with
      | none => rfl
      | some u => rw [S.z b u q] at h1; cases h1
  obtain ⟨n2, n3⟩ := List.nodup_cons.mp n1
  have keep : ∀ {hd : List Addr} {b : Addr}, b ∈ a :: g → b ∉ hd → prot B (fp ++ hd) H1 b = H1 b := fun {hd b} hb hh => by
    obtain ⟨_, _, h3, h4, _⟩ := free b hb
    exact prot_out (fun z => (List.mem_append.mp z).elim h4 hh) h3
  have zp : ∀ {hd : List Addr}, (∀ b ∈ hd, b ∈ g) → Same Z0 (prot B (fp ++ hd) H1) := fun {hd} hh b u e => by
    have c1 : b ∉ fp ++ hd := fun z => by
      rcases List.mem_append.mp z with y | y
      · rw [(S.out b y).2.2] at e; cases e
      · rw [(free b (List.mem_cons_of_mem _ (hh b y))).2.2.2.2] at e; cases e
    rw [prot_out c1 fun z => by rw [S.zB b z] at e; cases e]
    exact S1.z b u e
  refine ⟨fun k m σ H => ∃ F ρ fp' hd rest, hd ++ rest = g ∧ StOk X.K B Pn (prot B (fp ++ hd) H1) F1 F H σ ρ fp' ∧ OwnL (Own X.K F1 H1 n) (vs.drop k) (xs.drop k) rest ∧ m = xs.length - k ∧ k ≤ xs.length ∧ forD (tgO i n) gb (xs.drop k) E ρ, ⟨xs.length, F1, ρ, fp, [], g, rfl, by rw [List.append_nil]; exact S1.rebase, ow, rfl, Nat.zero_le _, hR⟩, ?_⟩
  rintro k m σ H2 ⟨F2, ρ2, fp2, hd, rest, eg, S2, own2, rfl, hk, hr⟩
  have sub1 : ∀ b ∈ hd, b ∈ g := fun b hb => by rw [← eg]; exact List.mem_append_left _ hb
  have sub2 : ∀ b ∈ rest, b ∈ g := fun b hb => by rw [← eg]; exact List.mem_append_right _ hb
  have dis : ∀ b ∈ rest, b ∉ hd := fun b hb hb' => by
    rw [← eg] at n3
    exact (List.nodup_append.mp n3).2.2 b hb' b hb rfl
  have cell : H2 a = some (.lst vs) := S2.z a _ (by rw [keep List.mem_cons_self fun z => n2 (sub1 a z)]; exact ha)
  have hsq : SqL X.K H2 a vs := .inl (.inl cell)
  by_cases hlt : k < xs.length
  · have hlt' : k < vs.length := by omega
    refine .inr ⟨⟨vs, vs[k], hsq, by simp [hlt']⟩, fun σ' H' => ∃ F ρ fp' hd rest, hd ++ rest = g ∧ StOk X.K B Pn (prot B (fp ++ hd) H1) F1 F H' σ' ρ fp' ∧ OwnL (Own X.K F1 H1 n) (vs.drop (k + 1)) (xs.drop (k + 1)) rest ∧ forD (tgO i n) gb (xs.drop (k + 1)) E ρ, fun σ' H' ⟨F, ρ, fp', hd, rest, e1, e2, e3, e4⟩ => ⟨xs.length - (k + 1), by omega, F, ρ, fp', hd, rest, e1, e2, e3, rfl, hlt, e4⟩, fun x H' ⟨e, hy⟩ => ?_⟩
    subst e
    have hxv : vs[k]? = some x := hy vs hsq
    rw [List.getElem?_eq_getElem hlt'] at hxv
    have hxv : vs[k] = x := Option.some.inj hxv
    rw [List.drop_eq_getElem_cons hlt', List.drop_eq_getElem_cons hlt] at own2
    obtain ⟨f1, f2, er, ow1, ow2⟩ := own2
    rw [hxv] at ow1
    rw [List.drop_eq_getElem_cons hlt] at hr
    obtain ⟨ρ', et, hb'⟩ := hr
    unfold tgO at et
    split at et
    · rename_i hil
      cases et
      have s1' : ∀ b ∈ f1, b ∈ rest := fun b hb => by rw [er]; exact List.mem_append_left _ hb
      have s2' : ∀ b ∈ f2, b ∈ rest := fun b hb => by rw [er]; exact List.mem_append_right _ hb
      have nr : rest.Nodup := by
        rw [← eg] at n3
        exact (List.nodup_append.mp n3).2.1
      rw [er] at nr
      obtain ⟨nf1, nf2, nf3⟩ := List.nodup_append.mp nr
      have zb : ∀ b ∈ f1, prot B (fp ++ hd) H1 b = H1 b := fun b hb => keep (List.mem_cons_of_mem _ (sub2 b (s1' b hb))) (dis b (s1' b hb))
      have own' : Own X.K F2 _ n x xs[k] f1 := ow1.mono S2.f fun b hb u e => S2.z b u (by rw [zb b hb]; exact e)
      have shr : Same (prot B (fp ++ (hd ++ f1)) H1) (prot B (fp ++ hd) H1) := fun b u e => by
        by_cases c : b ∈ fp ++ (hd ++ f1) ∨ b ∈ B
        · rw [prot_in c] at e; cases e
        · rw [prot_out (fun z => c (.inl z)) fun z => c (.inr z)] at e
          rw [prot_out (fun z => c (.inl (by
            rcases List.mem_append.mp z with y | y
            · exact List.mem_append_left _ y
            · exact List.mem_append_right _ (List.mem_append_left _ y)))) fun z => c (.inr z)]
          exact e
      have S3 := S2.shrink shr
      have ap : Apart B (prot B (fp ++ (hd ++ f1)) H1) F2 fp2 f1 := ⟨fun b hb => by
        obtain ⟨q1, q2, q3, q4, q5⟩ := free b (List.mem_cons_of_mem _ (sub2 b (s1' b hb)))
        obtain ⟨u, hu, mu⟩ := ow1.there b hb
        refine ⟨?_, q3, prot_in (.inl (List.mem_append_right _ (List.mem_append_right _ hb))), fun z => ?_⟩
        · cases x2 : F2 b with
          | none => rfl
          | some y =>
            exfalso
            rcases S2.fr b y x2 with w | w | w
            · rw [q2] at w; cases w
            · rw [zb b hb, hu] at w; cases w
            · obtain ⟨_, y2, ey, er2⟩ := rdH_some (S2.wf.sub b y x2)
              rw [S2.z b u (by rw [zb b hb]; exact hu)] at ey
              cases ey
              rw [mut_er mu] at er2
              subst er2
              cases u <;> first | exact mu | exact w
        · have := (S2.out b z).2.2
          rw [zb b hb, hu] at this
          exact (nomatch this), nf1⟩
      obtain ⟨fp3, S4⟩ := S3.set own' ap hil (by omega)
      have z2 := zp (hd := hd ++ f1) fun b hb => (List.mem_append.mp hb).elim (sub1 b) fun z => sub2 b (s1' b z)
      have nxt : ∀ F H σ ρ fp', StOk X.K B Pn (prot B (fp ++ (hd ++ f1)) H1) F1 F H σ ρ fp' → forD (tgO i n) gb (xs.drop (k + 1)) E ρ → ∃ F ρ fp' hd rest, hd ++ rest = g ∧ StOk X.K B Pn (prot B (fp ++ hd) H1) F1 F H σ ρ fp' ∧ OwnL (Own X.K F1 H1 n) (vs.drop (k + 1)) (xs.drop (k + 1)) rest ∧ forD (tgO i n) gb (xs.drop (k + 1)) E ρ := fun F H σ ρ fp' T h => ⟨F, ρ, fp', hd ++ f1, f2, by rw [List.append_assoc, ← er]; exact eg, T, ow2, h⟩
      exact ⟨Pn, _, F1, F2, _, fp3, _, hpl, S4, hb', ⟨fun F H σ ρ fp' T h => nxt F H σ ρ fp' T h, fun F H σ ρ fp' v d f T hv ap h => L.rt F H σ ρ fp' v d f (S1.unbaseG z2 T) hv (ap.unbase z2) h,
        fun F H σ ρ fp' T h => L.nx F H σ ρ fp' (S1.unbaseG z2 T) h, fun F H σ ρ fp' T h => nxt F H σ ρ fp' T h⟩⟩
    · cases et
  · have e : k = xs.length := by omega
    subst e
    rw [List.drop_length] at hr
    exact .inl ⟨⟨vs, hsq, by omega⟩, L.nx F2 H2 σ ρ2 fp2 (S1.unbaseG (zp sub1) S2) hr⟩
end
end GK

namespace GK
open PySem PySem.Spec PyProof.Rows L2
section
variable {X : Cx} {B : List Addr} {elt tg iter : Expr} {ifs : List Expr} {scope : Scope} {own : List (Str × Nat)} {pos : Pos} {fi : FI} {f fe : FE} {fc : FT} {t : D → Env → Option Env} {n : Nat}
/-- y = [..] on one line, over a list that stays owned -/
theorem ds_setLcC (i n : Nat) {pin : Nat} {mr : Mode} {y : Str} {py spos : Pos} (hc : X.calm = true) (hN : X.N.Nodup) (hy : X.N[i]? = some y) (hyl : X.env.scope.names.lookup y = some .local) (hp : pin ≤ i)
    (hsw : swapsWith (.ListComp elt [⟨tg, iter, ifs, 0⟩] scope pos) (some (.Name y py)) spos.line X.env = pure true) (hi : DIc X B tg iter fi) (ok : BlkOk X.N X.env.scope scope own) (hg : DGc X tg (own.map (·.2)) t) (hol : ∀ v ∈ own.map (·.2), ∃ x, X.N[v]? = some x ∧ ∀ C cl, (compEnvC scope cl C X.env).scope.names.lookup x = some .local)
    (ht : ∀ (s : Shared) (H : Hp) (C : Addr) (cl : List (Str × Addr)) (fp : List Addr), DTs (X.blk s H scope (compEnvC scope cl C X.env) fp) B ifs fc)
    (he : ∀ (s : Shared) (H : Hp) (C : Addr) (cl : List (Str × Addr)) (fp : List Addr), DE (X.blk s H scope (compEnvC scope cl C X.env) fp) B elt (.own n) fe) (hs : ∀ x, foldedSetIterable iter X.env x = pure x := by intro _; rfl) :
    DS X B (.Assign [.Name y py] (.ListComp elt [⟨tg, iter, ifs, 0⟩] scope pos) spos) pin mr (fun E ρ => gComp fi t fc fe (own.map (·.2)) ρ fun d => i < ρ.length ∧ E.nx (ρ.set i (some (n + 1, d)))) := by
  obtain ⟨g, pg, kg⟩ := hg.ok
  refine PS.imp (ps_setLc (tt := tDT X.K B fc) (te := tD X.K B (.own n) fe) hc hN hy hyl hsw hi ok (fun s H C cl fp => pg s H scope C cl fp hol) ht he hs) fun Dn σ H ⟨Pn, Z0, F0, F, ρ, fp, E, hpl, S, hf, L⟩ => ?_
  refine tD_lcC (Q := fun x H1 => Dn.nx (σ.set i (some x)) H1) (fun _ _ _ h => h) kg (tDM_of (pin := pin) (K := X.K) ⟨Pn, Z0, F0, F, ρ, fp, fun d ρ' => i < ρ'.length ∧ E.nx (ρ'.set i (some (n + 1, d))), hpl, S, hf, fun F' H' ρ' fp' v d f' S' hv ap hR => ?_⟩)
  obtain ⟨fp2, S2⟩ := S'.set hv ap hR.1 (by omega)
  exact L.nx F' H' _ _ fp2 S2 hR.2
end
end GK

namespace GK
open PySem PySem.Spec PyProof.Rows L2
/-! ### abs of a number -/
def gAbs : List D → (D → Prop) → Prop
  | [.int i], R => R (.int (if i < 0 then -i else i))
  | _, _ => False
theorem gAbs_int {i : Int} {R : D → Prop} : gAbs [.int i] R = R (.int (if i < 0 then -i else i)) := rfl
theorem opN_abs {K : PySem.W.Frag} {m1 m : Mode} : OpN K (fun xs H Q => ∃ i, xs = [.int i] ∧ Q (.int (if i < 0 then -i else i)) H) [m1] m gAbs := by
  intro B F H vs ds fp R Q w hv hf hg k
  unfold gAbs at hg
  split at hg
  · obtain ⟨v, rfl, h⟩ := hv.one
    obtain ⟨rfl, _⟩ := h.int
    exact ⟨_, rfl, k.int w hg⟩
  · exact hg.elim
section
variable {X : Cx} {e : Expr} {p pos : Pos} {m m1 : Mode} {f : FE}
theorem de_abs (hz : X.mg "abs" = none) (ha : DE X B e m1 f) (hg : Gl X "abs" := by rfl) (he : starEach [e] X.env = (false, eval e X.env) :: starEach [] X.env := by rfl) (hpl : (backTo pos (starEach [] X.env)).any (·.1) = false := by rfl) :
    DE X B (.Call (.Name "abs" p) [e] [] pos) m (fArgs gAbs (fCons f fNil)) := de_B call_abs opN_abs hg hz (by decide +kernel) (da_cons ha da_nil he) (by decide) (by decide) he hpl
variable {pin i n : Nat} {x : Str} {apos cpos : Pos} {B : List Addr}
/-- x.pop() -/
theorem dm_pop (i n : Nat) (hN : NameOk X i x := by exact ⟨rfl, by first | exact Or.inl rfl | exact Or.inr (Or.inl rfl) | exact Or.inr (Or.inr rfl), by decide, by decide⟩) (hb : Bm0Ok X (.Name x p) "pop" apos cpos := by exact ⟨rfl, rfl⟩) :
    DM X B (.Call (.Attribute (.Name x p) "pop" apos) [] [] cpos) pin (.own n) (fun ρ R => ownLst ρ i n fun ds => ∃ d, ds[ds.length - 1]? = some d ∧ R d (ρ.set i (some (n + 1, .lst ds.dropLast)))) :=
  PE.imp (pe_bm0 PySem.F.plainAttrs_list PySem.F.slot_list_pop PySem.F.type_list_pop mt_pop (pe_var hN.1 hN.2 hN.3 hN.4) hb.1 hb.2) fun σ H Q ⟨Pn, Z0, F0, F, ρ, fp, R, hpl, S, hf, k⟩ => by
    obtain ⟨ds, e0, d, hd, hR⟩ := hf.inv
    obtain ⟨a, vs, v, f, fp', q1, q2, q3, q4, q5, q6, q7⟩ := S.popped e0 hd
    have e1 : ds.eraseIdx (ds.length - 1) = ds.dropLast := PyProof.Rows.Copied.eraseIdx_last ..
    have e2 : vs.eraseIdx (ds.length - 1) = vs.dropLast := by rw [← q3]; exact PyProof.Rows.Copied.eraseIdx_last ..
    rw [e1, e2] at q5
    rw [e2] at q6
    exact ⟨_, q1, .inl ⟨rfl, _, SqL.of q2⟩, a, vs, v, rfl, rfl, q2, by rw [q3]; exact q4, k F _ _ fp' v d f q5 q6 q7 hR⟩
end
end GK

namespace GK
open PySem PySem.Spec PyProof.Rows L2
/-! ### something kept by others stands inside something owned -/
section
variable {X : Cx} {B : List Addr} {e : Expr} {f : FE} {n : Nat}
theorem Own.kept {K : PySem.W.Frag} {F H : Hp} {v : V} {d : D} (h : R K F v d) : ∀ n : Nat, Own K F H n v (.kp d) []
  | 0 => ⟨.kp h, rfl⟩
  | _ + 1 => ⟨.kp h, rfl⟩
theorem de_kp (n : Nat) (h : DE X B e (.own 0) f) : DE X B e (.own n) (fun ρ R => f ρ fun d => R (.kp d)) := PE.imp h fun σ H Q ⟨F, ρ, fp, R, S, hf, k⟩ => ⟨F, ρ, fp, _, S, hf, fun F' H' v d f' s hv ho hn hR =>
  k F' H' v (.kp d) [] s (Own.kept hv.1 n) (fun a ha => (by cases ha)) List.nodup_nil hR⟩
end
end GK

namespace GK
open PySem PySem.Spec PyProof.Rows L2
/-! ### enumerate of an object by its own __iter__ -/
abbrev enRec (it : Addr) : Obj := { cls := .type "enumerate", data := .fields #[.none, .bool false, .ref it, rawInt 0, .none, .none] }
section
open AutoSeq1 (wpAny_loadPart')
theorem enum_newK {P : Program} {w : World} {v : Value} : MeetsIn P w (Builtin.«enumerate.__new__» ⟨[.type "enumerate", v], []⟩) (fun A R s =>
      wpAny (model P w) A.in1 (pyIter v) (fun u s1 => ∃ it, u = .ref it ∧ R (.ok (.ret (.ref s1.heap.objs.size))) { s1 with heap := s1.heap.push (enRec it) }) (fun e s1 => R (.error e) s1) s) :=
  .of_wp fun A R s h => by
    have su := sub_enumerate
    have it1 : ∀ {Q : Value → Shared → Prop}, (∀ it s1, R (.ok (.ret (.ref s1.heap.objs.size))) { s1 with heap := s1.heap.push (enRec it) } → Q (.ref it) s1) → wpAny (model P w) A.in1 (pyIter v) Q (fun e s1 => R (.error e) s1) s :=
      fun q => wpAny_mono h (fun u s1 ⟨it, e, r⟩ => by subst e; exact q it s1 r) fun _ _ x => x
    wp_walk using it1
    refine wpAny_stack_any fun st => wpAny_pure ?_
    split
    · rename_i c _ _ _ _ _
      cases (c == Value.type "enumerate") <;> (wp_walk using it1; intro it s1 r; wp_walk using it1; exact ⟨_, rfl, r⟩)
    · wp_walk using it1
      intro it s1 r
      wp_walk using it1
      exact ⟨_, rfl, r⟩
end
section
variable {X : Cx} {B : List Addr} {k k' : Nat} {f C : Addr} {fd : FuncData} {ps : List Str} {e tg : Expr} {te : TE} {fe : FE} {fld : Str} {p pos tpos : Pos} {elts : List Expr} {kk : Nat}
theorem pi_enumOwnL (hg : Gl X "enumerate") (hm : X.mg "enumerate" = none) (he : PA X [e] (tCons te tNil)) (F : FnN X.prog X.w X.K X.mg X.base k f fd ps (spItL X.K C fld)) (hr : Room (k + 2) X.A) (hb : Binds X.K fd ps []) (hs : PySem.W.findIn X.K (.ref C) "__iter__" = some (some (.ref f))) (hf : PySem.W.isFn X.K (.ref f) = true)
    (hst : starEach [e] X.env = [(false, eval e X.env)] := by rfl) :
    PI X (.Tuple elts kk tpos) (.Call (.Name "enumerate" p) [e] [] pos) (fun σ H R => te σ H fun x H1 => ∃ a dx fs l zs, x = .ref a ∧ H1 a = some (.ins C dx fs) ∧ fs.lookup fld = some (.ref l) ∧ SqL X.K H1 l zs ∧ R (Ite X.K l) H1) := by
  refine ⟨fun pins s σ H R I h => ?_⟩
  refine Call_ (ld_blt I hg hm boot_enumerate (PyProof.Rows.callWith_type1 (thn (he.run pos pins s σ H (fun vs H1 => ∃ x, vs = [x] ∧ ∃ a dx fs l zs, x = .ref a ∧ H1 a = some (.ins C dx fs) ∧ fs.lookup fld = some (.ref l) ∧ SqL X.K H1 l zs ∧ R (Ite X.K l) H1) I ?_) fun us s1 ⟨vs, H1, I1, r1, x, ev, a, dx, fs, l, zs, ex, ha, hl, hq, q⟩ => ?_) hst rfl))
  · have : (fun x H1 => tNil σ H1 fun xs H2 => ∃ y, x :: xs = [y] ∧ ∃ a dx fs l zs, y = .ref a ∧ H2 a = some (.ins C dx fs) ∧ fs.lookup fld = some (.ref l) ∧ SqL X.K H2 l zs ∧ R (Ite X.K l) H2) = fun x H1 => ∃ a dx fs l zs, x = .ref a ∧ H1 a = some (.ins C dx fs) ∧ fs.lookup fld = some (.ref l) ∧ SqL X.K H1 l zs ∧ R (Ite X.K l) H1 := by
      funext x H1
      refine propext ⟨fun ⟨y, e, h⟩ => by cases e; exact h, fun h => ⟨x, rfl, h⟩⟩
    exact (congrArg (te σ H) this).mpr h
  subst ev
  subst ex
  obtain ⟨u, rfl, ru⟩ := r1.one
  cases ru
  obtain ⟨ox, od, J⟩ := isIns.at_ I1 ha
  obtain ⟨m, hF⟩ := I1.fr
  have sb : L2.Sub X k X.A.in1.in1 := L2.Sub.in1 (L2.Sub.in1 (⟨hr, rfl⟩ : L2.Sub X (k + 2) X.A))
  refine callType_newIn PySem.F.called_enumerate (by decide) (PySem.F.typeCall_enumerate_1 _) (PySem.F.newCall_enumerate_1 _) (fun q => PySem.F.args_object_init_2 q _) PySem.F.entry_enumerate_new enum_newK ?_
  refine PySem.W.owit_iter hF I1.ok.mod.kin J hs hf (wpAny_mono (run_subN (Q := fun v H' => ∃ it, v = .ref it ∧ H1 it = none ∧ s1.heap.objs.size ≤ it ∧ H' = upd H1 it (ItO l it 0)) (us := [.ref a]) (vs := [.ref a]) sb F hb .nil I1 (.cons rfl .nil)
    ⟨a, dx, fs, l, zs, rfl, ha, hl, hq, fun it h0 h1 => ⟨it, rfl, h0, h1, rfl⟩⟩) (fun u s2 z => ?_) fun _ _ x => x)
  obtain ⟨v, H', I2, rv, it, ev, h0, h1, eH⟩ := z
  subst ev
  subst eH
  cases rv
  have eo := itO_get I2 upd_same
  have tn : s2.heap.IsListIter it l 0 := ⟨_, eo, rfl, rfl⟩
  unfold PySem.W.OwitIt
  refine wpAny_specialOf (T := "list_iterator") ⟨_, eo, rfl⟩ slot_listiter_next.lookup ?_
  refine ⟨it, rfl, ?_⟩
  have ie : IsEnum (s2.heap.push (enRec it)) s2.heap.objs.size it 0 .none := Heap.get?_push_size s2.heap rfl
  have lt : it < s2.heap.objs.size := Heap.lt_size eo
  have kp : ∀ b u, s2.heap.get? b = some u → (s2.heap.push (enRec it)).get? b = some u := fun b u x => Heap.get?_push_of_some _ x
  have I3 : Inv X pins σ H1 s2 := by
    have := ItX.inv_drop I2 (a := it) (φ := _) upd_same
    rw [ItX.dropH_upd h0] at this
    exact this
  refine ⟨⟨_, ie, rfl⟩, wpAny_pyIter_enum ie ?_⟩
  refine ⟨s2.heap.objs.size, [s2.heap.objs.size, it], _, _, H1, rfl, I3.kept (t' := s2.toks) kp, turn_enum l s2.heap.objs.size it, ⟨⟨.none, ie⟩, tn.at fun o q => kp it o q, Nat.ne_of_gt lt⟩, fun b hb => ?_, q⟩
  rcases (show b = s2.heap.objs.size ∨ b = it by simpa using hb) with z | z
  · rw [z]
    exact I3.fpOk (Nat.le_refl _) (I3.hok.fresh (Nat.le_refl _))
  · rw [z]
    have := ItX.inv_fp I2 upd_same (Nat.le_trans I1.sz h1)
    rw [ItX.dropH_upd h0] at this
    exact this
theorem di_enumOwnL (hm : X.mg "enumerate" = none) (c : CalIL X.prog X.w X.K X.mg X.base C k fld) (hr : Room k' X.A) (h : DE X B e (.own 0) fe) (hk : k + 2 ≤ k' := by decide) (hg : Gl X "enumerate" := by rfl) (hs : starEach [e] X.env = [(false, eval e X.env)] := by rfl) (hs' : starEach [e] X.env = (false, eval e X.env) :: starEach [] X.env := by rfl) :
    DI X B (.Tuple elts kk tpos) (.Call (.Name "enumerate" p) [e] [] pos) (fun ρ R => fe ρ (ownL C fld fun xs => R (enumL xs))) := by
  obtain ⟨f, fd, F, hmt, hbd⟩ := c.ex
  refine PI.imp (pi_enumOwnL hg hm (pa_cons h pa_nil hs') F (hr.mono hk) hbd hmt.at_ hmt.fn hs) fun σ H R ⟨F, ρ, fp, Rx, S, hf, kk⟩ => ⟨F, ρ, fp, _, S, hf, fun F1 H1 v d f1 s1 hv o1 n1 hR => ?_⟩
  cases d <;> try exact (show False from hR).elim
  obtain ⟨rfl, xs, hl, hR⟩ := hR
  obtain ⟨a, dx, gs, rfl, ha, hk2, rl⟩ := hv.1.objI
  obtain ⟨i, u, e1, e2, e3⟩ := lookup_some hk2 hl
  obtain ⟨u', e4, ru⟩ := rl.get e3
  rw [e2] at e4
  cases e4
  obtain ⟨l, vs, rfl, h1, r⟩ := ru.lstI
  exact ⟨a, dx, gs, l, vs, rfl, ins_of s1.wf (s1.wf.sub _ _ ha), e1, lst_sub s1.wf h1, kk _ F1 H1 _ s1 (itD_enL (outF (S.step s1 fun a h => by cases h)) s1.wf h1 r) hR⟩
end
end GK

namespace GK
open PySem PySem.Spec PyProof.Rows L2
/-! ### a slice of a list that its name gives up; a walk over what an expression takes -/
theorem OwnL.cut2 {P : V → D → List Addr → Prop} : ∀ {vs : List V} {ds : List D} {f : List Addr}, OwnL P vs ds f → f.Nodup → ∀ k, (∃ g, OwnL P (vs.drop k) (ds.drop k) g ∧ g.Nodup ∧ ∀ a ∈ g, a ∈ f) ∧ ∃ g, OwnL P (vs.take k) (ds.take k) g ∧ g.Nodup ∧ ∀ a ∈ g, a ∈ f
  | [], [], f, h, nd, k => by
    have h : f = [] := h
    subst h
    rw [List.drop_nil, List.drop_nil, List.take_nil, List.take_nil]
    exact ⟨⟨[], rfl, .nil, fun a h => h⟩, ⟨[], rfl, .nil, fun a h => h⟩⟩
  | v :: vs, d :: ds, f, h, nd, 0 => ⟨⟨f, h, nd, fun a h => h⟩, ⟨[], rfl, .nil, fun a h => nomatch h⟩⟩
  | v :: vs, d :: ds, f, ⟨f1, f2, ef, h, t⟩, nd, k + 1 => by
    subst ef
    obtain ⟨n1, n2, n3⟩ := List.nodup_append.mp nd
    obtain ⟨⟨g, o1, o2, o3⟩, ⟨g', q1, q2, q3⟩⟩ := OwnL.cut2 t n2 k
    refine ⟨⟨g, o1, o2, fun a ha => List.mem_append_right _ (o3 a ha)⟩, ⟨f1 ++ g', ⟨f1, g', rfl, h, q1⟩, List.nodup_append.mpr ⟨n1, q2, fun a ha b hb => n3 a ha b (q3 b hb)⟩, fun a ha => ?_⟩⟩
    rcases List.mem_append.mp ha with z | z
    · exact List.mem_append_left _ z
    · exact List.mem_append_right _ (q3 a z)
theorem OwnL.slice {P : V → D → List Addr → Prop} {vs : List V} {ds : List D} {f : List Addr} (h : OwnL P vs ds f) (nd : f.Nodup) (lo hi : Option Int) : ∃ g, OwnL P (cutV vs lo hi) (cutD ds lo hi) g ∧ g.Nodup ∧ ∀ a ∈ g, a ∈ f := by
  unfold cutV cutD
  rw [h.len]
  obtain ⟨⟨g, o1, o2, o3⟩, _⟩ := h.cut2 nd (HT.sIx ds.length 0 lo)
  obtain ⟨_, ⟨g', q1, q2, q3⟩⟩ := o1.cut2 o2 (HT.sIx ds.length ds.length hi - HT.sIx ds.length 0 lo)
  exact ⟨g', q1, q2, fun a ha => o3 a (q3 a ha)⟩
section
variable {X : Cx} {B : List Addr} {pin i n : Nat} {hi : Option Expr} {fh : Env → (Option Int → Prop) → Prop} {x : Str} {p p2 pos : Pos}
/-- x[:hi], x given up -/
theorem dm_slTake (i n : Nat) (hh : DO X B hi fh) (hN : NameOk X i x := by exact ⟨rfl, by first | exact Or.inl rfl | exact Or.inr (Or.inl rfl) | exact Or.inr (Or.inr rfl), by decide, by decide⟩) :
    DM X B (.Subscript (.Name x p) (.Slice none hi none p2) pos) pin (.own (n + 1)) (fun ρ R => mTake i (n + 1) ρ fun d ρ1 => fh ρ1 fun hi => gSlL d none hi fun e => R e ρ1) :=
  PE.imp (pe_slice sl_list (pe_var hN.1 hN.2 hN.3 hN.4) po_none hh) fun σ H Q ⟨Pn, Z0, F0, F, ρ, fp, R, hpl, S, hf, k⟩ => by
    obtain ⟨d, q, hR⟩ := mTake_inv (show mTake i (n + 1) ρ _ from hf)
    obtain ⟨v, f, fp1, e1, o1, S1, ap1, sub1⟩ := S.take q
    refine ⟨v, e1, F, _, fp1, _, S1.base, hR, fun F2 H2 hi s2 hg => ?_⟩
    cases d <;> try exact (show False from hg).elim
    rename_i ds
    have S2 := S1.step s2 fun a h => (by cases h)
    obtain ⟨a, vs, g, rfl, ha, rfl, t⟩ := o1
    obtain ⟨_, ab, _, _⟩ := ap1.1 a List.mem_cons_self
    refine ⟨a, vs, rfl, SqL.of (s2.same a _ ab ha), fun z hz => ?_⟩
    obtain ⟨gn1, gn2⟩ := List.nodup_cons.mp ap1.2
    obtain ⟨g', o2, n2, s3⟩ := t.slice gn2 none hi
    have up : ∀ b ∈ g, ∃ u, H2 b = some u := fun b hb => by
      obtain ⟨u, hu, _⟩ := OwnL.there (p := fun b => ∃ o, H b = some o ∧ Mut (some o)) t (fun v d f o => o.there) b hb
      exact ⟨u, s2.same b _ (ap1.1 b (List.mem_cons_of_mem _ hb)).2.1 hu⟩
    have S3 := S2.step (Step.laid (A := []) S2.wf hz (o := .lst (cutV vs none hi)) rfl) fun a h => (by cases h)
    have hzg : z ∉ g' := fun w => by obtain ⟨u, hu⟩ := up z (s3 z w); rw [hz] at hu; cases hu
    refine k F2 _ _ fp1 (.ref z) (.lst (cutD ds none hi)) (z :: g') S3 ⟨z, _, g', rfl, upd_same, rfl, o2.imp fun w d f hf ow => Own.mono s2.fs (fun b hb u e => ?_) ow⟩ ⟨fun b hb => ?_, List.nodup_cons.mpr ⟨hzg, n2⟩⟩ hg
    · rw [upd_ne fun w => hzg (by rw [← w]; exact hf b hb)]
      exact s2.same b _ (ap1.1 b (List.mem_cons_of_mem _ (s3 b (hf b hb)))).2.1 e
    · rcases List.mem_cons.mp hb with y | y
      · subst y
        refine ⟨F_none S2.wf hz, S2.wf.notB hz, ?_, fun hm => ?_⟩
        · cases q : Z0 b with
          | none => rfl
          | some o => rw [S2.z b o q] at hz; cases hz
        · obtain ⟨o, e, _⟩ := S2.own.there b hm
          rw [hz] at e; cases e
      · have hg' := List.mem_cons_of_mem a (s3 b y)
        obtain ⟨r1, r2, r3, r4⟩ := ap1.1 b hg'
        obtain ⟨u, hu, mu⟩ := OwnL.there (p := fun b => ∃ o, H b = some o ∧ Mut (some o)) t (fun v d f o => o.there) b (s3 b y)
        exact ⟨s2.out hu mu r2 r1 fun z => (by cases z), r2, r3, r4⟩
/-- (x, e), x taken, e an atom -/
theorem dm_tupTA {k : Nat} {e2 : Expr} {fe : FE} {p1 : Pos} (i n : Nat) (he : DE X B e2 (.own 0) fe) (hN : NameOk X i x := by exact ⟨rfl, by first | exact Or.inl rfl | exact Or.inr (Or.inl rfl) | exact Or.inr (Or.inr rfl), by decide, by decide⟩)
    (hs : starEach [.Name x p1, e2] X.env = (false, eval (.Name x p1) X.env) :: starEach [e2] X.env := by rfl) (hs2 : starEach [e2] X.env = (false, eval e2 X.env) :: starEach [] X.env := by rfl) :
    DM X B (.Tuple [.Name x p1, e2] k pos) pin (.own (n + 1)) (fun ρ R => mTake i n ρ fun d ρ1 => fe ρ1 fun c => atomD c = true ∧ R (.tup [d, c]) ρ1) :=
  PE.imp (pe_tup (pa_cons (pe_var hN.1 hN.2 hN.3 hN.4) (pa_cons he pa_nil hs2) hs)) fun σ H Q ⟨Pn, Z0, F0, F, ρ, fp, R, hpl, S, hf, k⟩ => by
    obtain ⟨d, q, hR⟩ := mTake_inv (show mTake i n ρ _ from hf)
    obtain ⟨v, f, fp1, e1, o1, S1, ap1, sub1⟩ := S.take q
    refine ⟨v, e1, F, _, fp1, _, S1.base, hR, fun F2 H2 w c fx s2 hw ox nx hR2 => ⟨by show 2 ≤ sizeLine; decide, fun p hp => ?_⟩⟩
    obtain ⟨hca, hR2⟩ := hR2
    obtain ⟨hw1, rfl⟩ := (show Own X.K F2 H2 0 w c fx from hw)
    have S2 := S1.step s2 fun a h => (by cases h)
    have o2 : Own X.K F2 H2 n v d f := Own.mono s2.fs (fun a ha o eo => s2.same a _ (ap1.1 a ha).2.1 eo) o1
    have st := Step.laidF (A := []) S2.wf hp (o := .tup [v, w]) rfl
    have S3 := S2.step st fun a h => (by cases h)
    have np : ∀ a ∈ f, a ≠ p := fun a ha z => by
      obtain ⟨ob, eo, _⟩ := o2.there a ha
      rw [z, hp] at eo; cases eo
    have on : Own X.K (upd F2 p (.tup [v, w])) (upd H2 p (.tup [v, w])) n w c [] := Own.atom hca (GK.R.mono st.fs hw1)
    refine k _ _ _ fp1 (.ref p) (.tup [d, c]) f S3 ⟨p, [v, w], rfl, upd_same, f, [], (List.append_nil f).symm, Own.mono st.fs (fun a ha o eo => by rw [upd_ne (np a ha)]; exact eo) o2, [], [], rfl, on, rfl⟩ ⟨fun a ha => ?_, ap1.2⟩ hR2
    obtain ⟨r1, r2, r3, r4⟩ := ap1.1 a ha
    refine ⟨?_, r2, r3, r4⟩
    rw [upd_ne (np a ha)]
    obtain ⟨u, hu, mu⟩ := o1.there a ha
    exact s2.out hu mu r2 r1 fun z => (by cases z)
end
def gForM (f : FM) (i n : Nat) (gb : FS) : FS := fun E ρ => f ρ fun d ρ' => match d with
  | .lst xs => forD (tgO i n) gb xs E ρ'
  | _ => False
section
variable {X : Cx} {B : List Addr} {pin : Nat} {mr : Mode} {gb : FS} {f : FM} {pos p : Pos} {x : Str}
theorem ds_forM (i n : Nat) {iter : Expr} {body : List Stmt} (hp : PassesOwn (model X.prog X.w) X.A X.env X.xe) (hc : X.calm = true) (he : DM X B iter pin (.own (n + 1)) f) (hN : X.N.Nodup) (hi : X.N[i]? = some x) (hx : Loc X.env.scope x) (hpi : pin ≤ i) (hb : DSs X B body pin mr gb)
    (hs : ∀ x, foldedSetIterable iter X.env x = pure x := by intro _; rfl) (hf : X.fn x = true ∨ X.env.scope.names.lookup x = some .local := by first | exact .inl rfl | exact .inr rfl | assumption) : DS X B (.For (.Name x p) iter body [] pos) pin mr (gForM f i n gb) := by
  refine PS.imp (ps_for hp hc (pi_list he) (pg_name hN hi hx hf) hb hs) fun Dn σ H ⟨Pn, Z0, F0, F, ρ, fp, E, hpl, S, hg, L⟩ => ?_
  refine ⟨Pn, Z0, F0, F, ρ, fp, _, hpl, S, hg, fun F1 H1 ρ1 fp1 v d f1 S1 hv ap0 hR => ?_⟩
  cases d <;> try exact (show False from hR).elim
  rename_i xs
  obtain ⟨a, vs, g, rfl, ha, ef, ow⟩ := hv
  subst ef
  have n1 := ap0.2
  refine ⟨a, rfl, ⟨vs, .inl (.inl ha)⟩, ?_⟩
  have hlen : vs.length = xs.length := ow.len
  have free : ∀ b ∈ a :: g, True ∧ F1 b = none ∧ b ∉ B ∧ b ∉ fp1 ∧ Z0 b = none := fun b hb => by
    obtain ⟨h1, h2, h3, h4⟩ := ap0.1 b hb
    exact ⟨trivial, h1, h2, h4, h3⟩
  obtain ⟨n2, n3⟩ := List.nodup_cons.mp n1
  have keep : ∀ {hd : List Addr} {b : Addr}, b ∈ a :: g → b ∉ hd → prot B (fp1 ++ hd) H1 b = H1 b := fun {hd b} hb hh => by
    obtain ⟨_, _, h3, h4, _⟩ := free b hb
    exact prot_out (fun z => (List.mem_append.mp z).elim h4 hh) h3
  have zp : ∀ {hd : List Addr}, (∀ b ∈ hd, b ∈ g) → Same Z0 (prot B (fp1 ++ hd) H1) := fun {hd} hh b u e => by
    have c1 : b ∉ fp1 ++ hd := fun z => by
      rcases List.mem_append.mp z with y | y
      · rw [(S1.out b y).2.2] at e; cases e
      · rw [(free b (List.mem_cons_of_mem _ (hh b y))).2.2.2.2] at e; cases e
    rw [prot_out c1 fun z => by rw [S1.zB b z] at e; cases e]
    exact S1.z b u e
  refine ⟨fun k m σ H => ∃ F ρ fp' hd rest, hd ++ rest = g ∧ StOk X.K B Pn (prot B (fp1 ++ hd) H1) F1 F H σ ρ fp' ∧ OwnL (Own X.K F1 H1 n) (vs.drop k) (xs.drop k) rest ∧ m = xs.length - k ∧ k ≤ xs.length ∧ forD (tgO i n) gb (xs.drop k) E ρ, ⟨xs.length, F1, ρ1, fp1, [], g, rfl, by rw [List.append_nil]; exact S1.rebase, ow, rfl, Nat.zero_le _, hR⟩, ?_⟩
  rintro k m σ H2 ⟨F2, ρ2, fp2, hd, rest, eg, S2, own2, rfl, hk, hr⟩
  have sub1 : ∀ b ∈ hd, b ∈ g := fun b hb => by rw [← eg]; exact List.mem_append_left _ hb
  have sub2 : ∀ b ∈ rest, b ∈ g := fun b hb => by rw [← eg]; exact List.mem_append_right _ hb
  have dis : ∀ b ∈ rest, b ∉ hd := fun b hb hb' => by
    rw [← eg] at n3
    exact (List.nodup_append.mp n3).2.2 b hb' b hb rfl
  have cell : H2 a = some (.lst vs) := S2.z a _ (by rw [keep List.mem_cons_self fun z => n2 (sub1 a z)]; exact ha)
  have hsq : SqL X.K H2 a vs := .inl (.inl cell)
  by_cases hlt : k < xs.length
  · have hlt' : k < vs.length := by omega
    refine .inr ⟨⟨vs, vs[k], hsq, by simp [hlt']⟩, fun σ' H' => ∃ F ρ fp' hd rest, hd ++ rest = g ∧ StOk X.K B Pn (prot B (fp1 ++ hd) H1) F1 F H' σ' ρ fp' ∧ OwnL (Own X.K F1 H1 n) (vs.drop (k + 1)) (xs.drop (k + 1)) rest ∧ forD (tgO i n) gb (xs.drop (k + 1)) E ρ, fun σ' H' ⟨F, ρ, fp', hd, rest, e1, e2, e3, e4⟩ => ⟨xs.length - (k + 1), by omega, F, ρ, fp', hd, rest, e1, e2, e3, rfl, hlt, e4⟩, fun x H' ⟨e, hy⟩ => ?_⟩
    subst e
    have hxv : vs[k]? = some x := hy vs hsq
    rw [List.getElem?_eq_getElem hlt'] at hxv
    have hxv : vs[k] = x := Option.some.inj hxv
    rw [List.drop_eq_getElem_cons hlt', List.drop_eq_getElem_cons hlt] at own2
    obtain ⟨f1, f2, er, ow1, ow2⟩ := own2
    rw [hxv] at ow1
    rw [List.drop_eq_getElem_cons hlt] at hr
    obtain ⟨ρ', et, hb'⟩ := hr
    unfold tgO at et
    split at et
    · rename_i hil
      cases et
      have s1' : ∀ b ∈ f1, b ∈ rest := fun b hb => by rw [er]; exact List.mem_append_left _ hb
      have s2' : ∀ b ∈ f2, b ∈ rest := fun b hb => by rw [er]; exact List.mem_append_right _ hb
      have nr : rest.Nodup := by
        rw [← eg] at n3
        exact (List.nodup_append.mp n3).2.1
      rw [er] at nr
      obtain ⟨nf1, nf2, nf3⟩ := List.nodup_append.mp nr
      have zb : ∀ b ∈ f1, prot B (fp1 ++ hd) H1 b = H1 b := fun b hb => keep (List.mem_cons_of_mem _ (sub2 b (s1' b hb))) (dis b (s1' b hb))
      have own' : Own X.K F2 _ n x xs[k] f1 := ow1.mono S2.f fun b hb u e => S2.z b u (by rw [zb b hb]; exact e)
      have shr : Same (prot B (fp1 ++ (hd ++ f1)) H1) (prot B (fp1 ++ hd) H1) := fun b u e => by
        by_cases c : b ∈ fp1 ++ (hd ++ f1) ∨ b ∈ B
        · rw [prot_in c] at e; cases e
        · rw [prot_out (fun z => c (.inl z)) fun z => c (.inr z)] at e
          rw [prot_out (fun z => c (.inl (by
            rcases List.mem_append.mp z with y | y
            · exact List.mem_append_left _ y
            · exact List.mem_append_right _ (List.mem_append_left _ y)))) fun z => c (.inr z)]
          exact e
      have S3 := S2.shrink shr
      have ap : Apart B (prot B (fp1 ++ (hd ++ f1)) H1) F2 fp2 f1 := ⟨fun b hb => by
        obtain ⟨q1, q2, q3, q4, q5⟩ := free b (List.mem_cons_of_mem _ (sub2 b (s1' b hb)))
        obtain ⟨u, hu, mu⟩ := ow1.there b hb
        refine ⟨?_, q3, prot_in (.inl (List.mem_append_right _ (List.mem_append_right _ hb))), fun z => ?_⟩
        · cases x2 : F2 b with
          | none => rfl
          | some y =>
            exfalso
            rcases S2.fr b y x2 with w | w | w
            · rw [q2] at w; cases w
            · rw [zb b hb, hu] at w; cases w
            · obtain ⟨_, y2, ey, er2⟩ := rdH_some (S2.wf.sub b y x2)
              rw [S2.z b u (by rw [zb b hb]; exact hu)] at ey
              cases ey
              rw [mut_er mu] at er2
              subst er2
              cases u <;> first | exact mu | exact w
        · have := (S2.out b z).2.2
          rw [zb b hb, hu] at this
          exact (nomatch this), nf1⟩
      obtain ⟨fp3, S4⟩ := S3.set own' ap hil (by omega)
      have z2 := zp (hd := hd ++ f1) fun b hb => (List.mem_append.mp hb).elim (sub1 b) fun z => sub2 b (s1' b z)
      have nxt : ∀ F H σ ρ fp', StOk X.K B Pn (prot B (fp1 ++ (hd ++ f1)) H1) F1 F H σ ρ fp' → forD (tgO i n) gb (xs.drop (k + 1)) E ρ → ∃ F ρ fp' hd rest, hd ++ rest = g ∧ StOk X.K B Pn (prot B (fp1 ++ hd) H1) F1 F H σ ρ fp' ∧ OwnL (Own X.K F1 H1 n) (vs.drop (k + 1)) (xs.drop (k + 1)) rest ∧ forD (tgO i n) gb (xs.drop (k + 1)) E ρ := fun F H σ ρ fp' T h => ⟨F, ρ, fp', hd ++ f1, f2, by rw [List.append_assoc, ← er]; exact eg, T, ow2, h⟩
      exact ⟨Pn, _, F1, F2, _, fp3, _, hpl, S4, hb', ⟨fun F H σ ρ fp' T h => nxt F H σ ρ fp' T h, fun F H σ ρ fp' v d f T hv ap h => L.rt F H σ ρ fp' v d f (S1.unbaseG z2 T) hv (ap.unbase z2) h,
        fun F H σ ρ fp' T h => L.nx F H σ ρ fp' (S1.unbaseG z2 T) h, fun F H σ ρ fp' T h => nxt F H σ ρ fp' T h⟩⟩
    · cases et
  · have e : k = xs.length := by omega
    subst e
    rw [List.drop_length] at hr
    exact .inl ⟨⟨vs, hsq, by omega⟩, L.nx F2 H2 σ ρ2 fp2 (S1.unbaseG (zp sub1) S2) hr⟩
end
end GK

namespace GK
open PySem PySem.Spec PyProof.Rows L2
/-! ### a comprehension over what a name owns deeply: the name's value counts as readable while it runs; what comes out is flat below what is new -/
theorem tD_frz {K : PySem.W.Frag} {B fp : List Addr} {Pn : List V} {Z0 F0 F H : Hp} {σ : L2.St} {ρ : Env} {f : FE} {m : Nat} {R : D → Prop} {Q : VK} (j : Nat) (S : StOk K B Pn Z0 F0 F H σ ρ fp) (hf : f (frzE ρ j) fun d => flatN m d = true ∧ R d)
    (k : ∀ F' H' v d f', StOk K B Pn Z0 F0 F' H' σ ρ fp → Own K F' H' m v d f' → Apart B Z0 F' fp f' → R d → Q v H') : tD K B (.own m) f σ H Q := by
  obtain ⟨F1, fp1, S1⟩ := S.base.frz j
  refine ⟨F1, frzE ρ j, fp1, _, S1, hf, fun F' H' v d fv s hv ho hn hR => ?_⟩
  have hv : Own K F' H' m v d fv := hv
  have w := S.wf
  have s2 : Step B [] F H F H' := ⟨s.same, fun _ _ h => h, fun _ _ h => .inl h, ⟨fun a u e => rdH_same s.same a u (w.sub a u e), s.wf.lock, s.wf.bag⟩⟩
  have ht := hv.there
  have S2 := S.step s2.addT fun a h => (by cases h)
  have o2 := Own.flat (fun a vs e => addT_tup s2.wf.sub (s.wf.sub _ _ e)) hR.1 hv
  refine k _ H' v d fv S2 o2 ⟨fun a ha => ?_, hn⟩ hR.2
  obtain ⟨h1, h2, h3⟩ := ho a ha
  have hz : H a = none := h1.elim (fun h => by cases h) id
  obtain ⟨o, e, mu⟩ := ht a ha
  refine ⟨?_, h3, ?_, fun hm => ?_⟩
  · cases q : addT F (rdH B H') a with
    | none => rfl
    | some u =>
      exfalso
      rcases addT_cases q with z | ⟨z, t⟩
      · rw [F_none w hz] at z; cases z
      · obtain ⟨_, x, ex, er⟩ := rdH_some z
        rw [e] at ex; cases ex
        rw [mut_er mu] at er; subst er
        cases o <;> first | exact mu | exact t
  · cases q : Z0 a with
    | none => rfl
    | some u => rw [S.z a u q] at hz; cases hz
  · obtain ⟨u, eu, _⟩ := S.own.there a hm
    rw [hz] at eu; cases eu
section
variable {X : Cx} {B : List Addr} {elt tg iter : Expr} {ifs : List Expr} {scope : Scope} {own : List (Str × Nat)} {pos : Pos} {fi : FI} {fe : FE} {fc : FT} {t : D → Env → Option Env}
theorem ds_setLcZ (j i n : Nat) {pin : Nat} {mr : Mode} {y : Str} {py spos : Pos} (hc : X.calm = true) (hN : X.N.Nodup) (hy : X.N[i]? = some y) (hyl : X.env.scope.names.lookup y = some .local) (hp : pin ≤ i)
    (hsw : swapsWith (.ListComp elt [⟨tg, iter, ifs, 0⟩] scope pos) (some (.Name y py)) spos.line X.env = pure true) (hi : DI X B tg iter fi) (ok : BlkOk X.N X.env.scope scope own) (hg : DGc X tg (own.map (·.2)) t) (hol : ∀ v ∈ own.map (·.2), ∃ x, X.N[v]? = some x ∧ ∀ C cl, (compEnvC scope cl C X.env).scope.names.lookup x = some .local)
    (ht : ∀ (s : Shared) (H : Hp) (C : Addr) (cl : List (Str × Addr)) (fp : List Addr), DTs (X.blk s H scope (compEnvC scope cl C X.env) fp) B ifs fc)
    (he : ∀ (s : Shared) (H : Hp) (C : Addr) (cl : List (Str × Addr)) (fp : List Addr), DE (X.blk s H scope (compEnvC scope cl C X.env) fp) B elt (.own n) fe) (hs : ∀ x, foldedSetIterable iter X.env x = pure x := by intro _; rfl) :
    DS X B (.Assign [.Name y py] (.ListComp elt [⟨tg, iter, ifs, 0⟩] scope pos) spos) pin mr (fun E ρ => gComp fi t fc fe (own.map (·.2)) (frzE ρ j) fun d => flatN (n + 1) d = true ∧ i < ρ.length ∧ E.nx (ρ.set i (some (n + 1, d)))) := by
  obtain ⟨g, pg, kg⟩ := hg.ok
  refine PS.imp (ps_setLc (tt := tDT X.K B fc) (te := tD X.K B (.own n) fe) hc hN hy hyl hsw hi ok (fun s H C cl fp => pg s H scope C cl fp hol) ht he hs) fun Dn σ H ⟨Pn, Z0, F0, F, ρ, fp, E, hpl, S, hf, L⟩ => ?_
  refine tD_lc (Q := fun x H1 => Dn.nx (σ.set i (some x)) H1) (fun _ _ _ h => h) kg (tD_frz j S hf fun F' H' v d f' S' hv ap hR => ?_)
  obtain ⟨fp2, S2⟩ := S'.set hv ap hR.1 (by omega)
  exact L.nx F' H' _ _ fp2 S2 hR.2
end
end GK

namespace GK
open PySem PySem.Spec PyProof.Rows L2
/-! ### a walk over an owned list that lends each item to the loop's name -/
def walkL (i j : Nat) (gb : FS) (ds : List D) (E : DEnds) : List D → Env → Prop
  | [] => fun ρ => E.nx ρ
  | d :: r => fun ρ => contD d = true ∧ heldB ρ j = true ∧ j < ρ.length ∧ gb {
      nx := (fun ρ2 => slot ρ2 j = some (1, d) ∧ slot ρ2 i = none ∧ i < ρ2.length ∧ ∀ w, walkL i j gb ds E r ((ρ2.set j (some (0, .raw w))).set i (some (2, .lst ds)))),
      rt := E.rt,
      bk := (fun _ => False),
      ct := (fun ρ2 => slot ρ2 j = some (1, d) ∧ slot ρ2 i = none ∧ i < ρ2.length ∧ ∀ w, walkL i j gb ds E r ((ρ2.set j (some (0, .raw w))).set i (some (2, .lst ds)))) } ((ρ.set i none).set j (some (1, d)))
def gForL (i j : Nat) (gb : FS) : FS := fun E ρ => match slot ρ i with
  | some (m, .lst ds) => m = 2 ∧ walkL i j gb ds E ds ρ
  | _ => False
theorem walkL_go {i j : Nat} {gb : FS} {ds : List D} {E : DEnds} (I : List D → Env → Prop)
    (hs : ∀ d r ρ, I (d :: r) ρ → contD d = true ∧ heldB ρ j = true ∧ j < ρ.length ∧ ∀ N : Env → Prop, (∀ ρ2, slot ρ2 j = some (1, d) → slot ρ2 i = none → i < ρ2.length → (∀ w, I r ((ρ2.set j (some (0, .raw w))).set i (some (2, .lst ds)))) → N ρ2) →
      gb { nx := N, rt := E.rt, bk := (fun _ => False), ct := N } ((ρ.set i none).set j (some (1, d)))) (hd : ∀ ρ, I [] ρ → E.nx ρ) : ∀ xs ρ, I xs ρ → walkL i j gb ds E xs ρ
  | [], ρ, h => hd ρ h
  | d :: r, ρ, h => by
    obtain ⟨h1, h2, h3, h4⟩ := hs d r ρ h
    exact ⟨h1, h2, h3, h4 _ fun ρ2 e1 e2 e3 e4 => ⟨e1, e2, e3, fun w => walkL_go I hs hd r _ (e4 w)⟩⟩
/-- .. over the items of something -/
theorem walkL_map {Z : Type} {ι : Z → D} {l : List Z} {i j : Nat} {gb : FS} {ds : List D} {E : DEnds} {ρ : Env} (I : List Z → Env → Prop) (h0 : I l ρ)
    (hs : ∀ z r ρ, I (z :: r) ρ → contD (ι z) = true ∧ heldB ρ j = true ∧ j < ρ.length ∧ ∀ N : Env → Prop, (∀ ρ2, slot ρ2 j = some (1, ι z) → slot ρ2 i = none → i < ρ2.length → (∀ w, I r ((ρ2.set j (some (0, .raw w))).set i (some (2, .lst ds)))) → N ρ2) →
      gb { nx := N, rt := E.rt, bk := (fun _ => False), ct := N } ((ρ.set i none).set j (some (1, ι z)))) (hd : ∀ ρ, I [] ρ → E.nx ρ) : walkL i j gb ds E (l.map ι) ρ := by
  refine walkL_go (fun xs ρ => ∃ l, xs = l.map ι ∧ I l ρ) (fun d r ρ ⟨l, e, h⟩ => ?_) (fun ρ ⟨l, e, h⟩ => ?_) _ _ ⟨l, rfl, h0⟩
  · cases l with
    | nil => cases e
    | cons z l =>
      rw [List.map_cons] at e
      injection e with e1 e2
      subst e1
      obtain ⟨h1, h2, h3, h4⟩ := hs z l ρ h
      exact ⟨h1, h2, h3, fun N hN => h4 N fun ρ2 q1 q2 q3 q4 => hN ρ2 q1 q2 q3 fun w => ⟨l, e2, q4 w⟩⟩
  · cases l with
    | nil => exact hd ρ h
    | cons z l => cases e
theorem set_at {α : Type} {x : α} : ∀ {l : List α} {k : Nat}, l[k]? = some x → l.set k x = l
  | [], k, h => by simp at h
  | a :: l, 0, h => by
    have e : a = x := Option.some.inj h
    rw [e]; rfl
  | a :: l, k + 1, h => by rw [List.set_cons_succ, set_at (l := l) (k := k) h]
theorem slot_set {ρ : Env} {i : Nat} {o : Option (Nat × D)} (h : i < ρ.length) : slot (ρ.set i o) i = o := by
  induction ρ generalizing i with
  | nil => simp at h
  | cons a r ih =>
    cases i with
    | zero => rfl
    | succ i => exact ih (by simpa using h)
section
variable {X : Cx} {B : List Addr} {pin : Nat} {mr : Mode} {gb : FS} {pos p p' : Pos} {x y : Str}
theorem ds_forLend (i j : Nat) (hij : i < j) {body : List Stmt} (hp : PassesOwn (model X.prog X.w) X.A X.env X.xe) (hc : X.calm = true) (hNi : NameOk X i y) (hN : X.N.Nodup) (hj : X.N[j]? = some x) (hx : Loc X.env.scope x) (hpj : pin ≤ j) (hb : DSs X B body (j + 1) mr gb)
    (hs : ∀ x, foldedSetIterable (.Name y p') X.env x = pure x := by intro _; rfl) (hf : X.fn x = true ∨ X.env.scope.names.lookup x = some .local := by first | exact .inl rfl | exact .inr rfl | assumption) : DS X B (.For (.Name x p) (.Name y p') body [] pos) pin mr (gForL i j gb) := by
  refine PS.imp (ps_for hp hc (pi_list (pe_var hNi.1 hNi.2 hNi.3 hNi.4)) (pg_name hN hj hx hf) hb hs) fun Dn σ H ⟨Pn, Z0, F0, F, ρ, fp, E, hpl, S, hg, L⟩ => ?_
  unfold gForL at hg
  split at hg
  · rename_i m ds es
    obtain ⟨rfl, hg⟩ := hg
    obtain ⟨v, f, e1, o1, _⟩ := S.own.slot es
    obtain ⟨a, vs, g, rfl, ha, rfl, ow⟩ := o1
    refine ⟨_, e1, a, rfl, ⟨vs, .inl (.inl ha)⟩, ?_⟩
    refine ⟨fun k m σ H => σ[i]? = some (some (.ref a)) ∧ ∃ F ρ fp, StOk X.K B Pn Z0 F0 F H σ ρ fp ∧ m = ds.length - k ∧ k ≤ ds.length ∧ slot ρ i = some (2, .lst ds) ∧ walkL i j gb ds E (ds.drop k) ρ, ⟨ds.length, e1, F, ρ, fp, S, rfl, Nat.zero_le _, es, hg⟩, ?_⟩
    rintro k m σ H ⟨e1, F, ρ, fp, S, rfl, hk, es, hr⟩
    obtain ⟨v, f, e2, o1, of⟩ := S.own.slot es
    rw [e1] at e2
    cases e2
    obtain ⟨a', vs, g, ea, ha, rfl, ow⟩ := id o1
    cases ea
    have haB : a ∉ B := (S.out a (of a List.mem_cons_self)).2.1
    have hlen : vs.length = ds.length := ow.len
    have hsq : SqL X.K H a vs := .inl (.inl ha)
    by_cases hlt : k < ds.length
    · have hlt' : k < vs.length := by omega
      refine .inr ⟨⟨vs, vs[k], hsq, by simp [hlt']⟩, fun σ' H' => σ'[i]? = some (some (.ref a)) ∧ ∃ F ρ fp, StOk X.K B Pn Z0 F0 F H' σ' ρ fp ∧ slot ρ i = some (2, .lst ds) ∧ walkL i j gb ds E (ds.drop (k + 1)) ρ, fun σ' H' ⟨e3, F, ρ, fp, h1, h2, h3⟩ => ⟨ds.length - (k + 1), by omega, e3, F, ρ, fp, h1, rfl, hlt, h2, h3⟩, fun x H' ⟨e, hy⟩ => ?_⟩
      subst e
      have hxv : vs[k]? = some x := hy vs hsq
      rw [List.drop_eq_getElem_cons hlt] at hr
      obtain ⟨hc1, hh, hjl, hb'⟩ := hr
      have hsub : subP (.lst ds) [.ix k] = some ds[k] := by
        show (ds[k]?).bind (fun e => some e) = _
        rw [List.getElem?_eq_getElem hlt]; rfl
      obtain ⟨Pn', Z1, fp', hl, S1, zz, pp, ps, back⟩ := S.lend (i := i) (j := j) (p := [.ix k]) (v0 := .ref a) (w := x) es hsub hc1 e1 ⟨x, ⟨a, vs, rfl, haB, ha, hxv⟩, rfl⟩ hjl hij (heldB_to hh) (by omega)
      have nxt : ∀ F2 H2 σ2 ρ2 fp2, StOk X.K B Pn' Z1 F F2 H2 σ2 ρ2 fp2 → (slot ρ2 j = some (1, ds[k]) ∧ slot ρ2 i = none ∧ i < ρ2.length ∧ ∀ w, walkL i j gb ds E (ds.drop (k + 1)) ((ρ2.set j (some (0, .raw w))).set i (some (2, .lst ds)))) →
          σ2[i]? = some (some (.ref a)) ∧ ∃ F ρ fp, StOk X.K B Pn Z0 F0 F H2 σ2 ρ fp ∧ slot ρ i = some (2, .lst ds) ∧ walkL i j gb ds E (ds.drop (k + 1)) ρ := fun F2 H2 σ2 ρ2 fp2 T ⟨h1, h2, h3, h4⟩ => by
        refine ⟨T.pn i _ (ps i _ hij e1), ?_⟩
        obtain ⟨fp3, S3⟩ := back F2 H2 σ2 ρ2 fp2 ds[k] T h1 h2 h3 hc1
        have e4 : setP (.lst ds) [.ix k] ds[k] = .lst ds := by
          show (match subD (.lst ds) (.ix k) with
            | some e => setD (.lst ds) (.ix k) (setP e [] ds[k])
            | none => _) = _
          rw [show subD (.lst ds) (.ix k) = some ds[k] from List.getElem?_eq_getElem hlt]
          show D.lst (ds.set k ds[k]) = _
          rw [set_at (List.getElem?_eq_getElem hlt)]
        rw [e4] at S3
        exact ⟨F2, _, fp3, S3, slot_set (by rw [List.length_set]; exact h3), h4 x⟩
      exact ⟨Pn', Z1, F, F, _, fp', _, hl, S1, hb', ⟨nxt, fun F2 H2 σ2 ρ2 fp2 v d f T hv ap h => by
        have T' : StOk X.K B Pn Z1 F F2 H2 σ2 ρ2 fp2 := ⟨T.wf, T.own, T.nd, T.out, T.z, T.zB, T.f, T.fr, fun m u e => T.pn m u (pp m u e)⟩
        exact L.rt F2 H2 σ2 ρ2 fp2 v d f (S.unbaseG zz T') hv (ap.unbase zz) h, fun _ _ _ _ _ _ h => h.elim, nxt⟩⟩
    · have e : k = ds.length := by omega
      subst e
      rw [List.drop_length] at hr
      exact .inl ⟨⟨vs, hsq, by omega⟩, L.nx F H σ ρ fp S hr⟩
  · exact hg.elim
end
/-! ### t + u of tuples -/
def gCatT : D → D → (D → Prop) → Prop
  | .tup xs, .tup ys, R => xs.length + ys.length ≤ sizeLine ∧ R (.tup (xs ++ ys))
  | _, _, _ => False
theorem gCatT_go {xs ys : List D} {R : D → Prop} (h : xs.length + ys.length ≤ sizeLine) (q : R (.tup (xs ++ ys))) : gCatT (.tup xs) (.tup ys) R := ⟨h, q⟩
section
variable {X : Cx} {B : List Addr} {a b : Expr} {pos : Pos} {f f' : FE}
theorem de_catT (ha : DE X B a (.own 0) f) (hb : DE X B b (.own 0) f') : DE X B (.BinOp a .Add b pos) (.own 0) (fBin gCatT f f') := de_op op_catA (by
  intro B F H x y d e fp R Q w ⟨f1, f2, ef, hx, hy⟩ _ hg k
  cases d <;> cases e <;> try exact (show False from hg).elim
  rename_i ds es
  obtain ⟨hl, hg⟩ := hg
  obtain ⟨a, xs, rfl, hp, r⟩ := (show GK.R X.K F x _ from hx.1).tupI
  obtain ⟨b, ys, rfl, hq, t⟩ := (show GK.R X.K F y _ from hy.1).tupI
  refine ⟨a, b, xs, ys, rfl, rfl, sqT_rd (w.sub _ _ hp), sqT_rd (w.sub _ _ hq), by rw [r.length, t.length]; exact hl, fun h0 => ?_, fun _ h0 => ?_, fun _ _ z hz => k.newTup w (r.append t) hg hz⟩
  · subst h0
    cases r
    exact k F H _ (.tup es) [] (Step.refl w) ⟨.tup hq t, rfl⟩ (fun a h => (by cases h)) List.nodup_nil hg
  · subst h0
    cases t
    rw [List.append_nil] at hg
    exact k F H _ (.tup ds) [] (Step.refl w) ⟨.tup hp r, rfl⟩ (fun a h => (by cases h)) List.nodup_nil hg) ha hb
end
/-! ### a def that calls itself: a promise of nothing holds at every level -/
theorem FnOk.none {P : Program} {w : World} {K : PySem.W.Frag} {mg : Str → Option Value} {base : Heap} {k : Nat} {f : Addr} {fd : FuncData} {ps : List Str} {m : Mode} : FnOk P w K mg base CX0 k f fd ps (spD K m fun _ _ _ => False) :=
  ⟨fun vs H Q E ⟨B, F, ds, R, _, _, h, _⟩ => h.elim, fun A outer s H args us vs Q E _ _ _ _ ⟨B, F, ds, R, _, _, h, _⟩ => h.elim⟩
theorem FnOk.none0 {P : Program} {w : World} {K : PySem.W.Frag} {mg : Str → Option Value} {base : Heap} {k : Nat} {f : Addr} {fd : FuncData} {ps : List Str} {m : Mode} {W : BSpec} (h : ∀ B ds R, ¬ W B ds R) : FnOk P w K mg base CX0 k f fd ps (spD K m W) :=
  ⟨fun vs H Q E ⟨B, F, ds, R, _, _, z, _⟩ => (h _ _ _ z).elim, fun A outer s H args us vs Q E _ _ _ _ ⟨B, F, ds, R, _, _, z, _⟩ => (h _ _ _ z).elim⟩
end GK

namespace GK
open PySem PySem.Spec PyProof.Rows L2
open PySem.AutoSeq1 (wpAny_loadPart')
/-! ### == and != of an object and a stranger -/
section
theorem lst_eq_dec (l b : Addr) (items : Array Value) (n : Nat) (dd dd2 : Option Addr) (sl sl2 : Array (Option Value)) (C : Addr) (data : Data) (K : PySem.W.Frag) (hn : PySem.W.subIn K (.ref C) (.type "list") = some false) :
    Meets (Builtin.«list.__eq__» ⟨[.ref l, .ref b], []⟩) (fun _ R s => K.In s.heap ∧ s.heap.get? l = some { cls := .type "list", dict := dd, data := .seq items n, slots := sl } ∧ s.heap.get? b = some { cls := .ref C, dict := dd2, data := data, slots := sl2 } ∧ R (.ok (.ret .notImplemented)) s) :=
  .of_wp fun prog w A R s h => by
    obtain ⟨hp, g, d, tk, os⟩ := s
    obtain ⟨hk, hl, hb, h⟩ := h
    wp_walk using wpAny_loadPart' hl, wpAny_loadPart' hb
    refine (PySem.W.looks_subIn hk hn).here ?_
    wp_walk
    exact ⟨_, rfl, h⟩
theorem tup_eq_dec (l b : Addr) (items : Array Value) (n : Nat) (dd dd2 : Option Addr) (sl sl2 : Array (Option Value)) (C : Addr) (data : Data) (K : PySem.W.Frag) (hn : PySem.W.subIn K (.ref C) (.type "tuple") = some false) :
    Meets (Builtin.«tuple.__eq__» ⟨[.ref l, .ref b], []⟩) (fun _ R s => K.In s.heap ∧ s.heap.get? l = some { cls := .type "tuple", dict := dd, data := .seq items n, slots := sl } ∧ s.heap.get? b = some { cls := .ref C, dict := dd2, data := data, slots := sl2 } ∧ R (.ok (.ret .notImplemented)) s) :=
  .of_wp fun prog w A R s h => by
    obtain ⟨hp, g, d, tk, os⟩ := s
    obtain ⟨hk, hl, hb, h⟩ := h
    wp_walk using wpAny_loadPart' hl, wpAny_loadPart' hb
    refine (PySem.W.looks_subIn hk hn).here ?_
    wp_walk
    exact ⟨_, rfl, h⟩
theorem dict_eq_dec (l b : Addr) (dd dd2 : Option Addr) (sl sl2 : Array (Option Value)) (C : Addr) (es : Data) (data : Data) (K : PySem.W.Frag) (hn : PySem.W.subIn K (.ref C) (.type "dict") = some false) :
    Meets (Builtin.«dict.__eq__» ⟨[.ref l, .ref b], []⟩) (fun _ R s => K.In s.heap ∧ s.heap.get? l = some { cls := .type "dict", dict := dd, data := es, slots := sl } ∧ s.heap.get? b = some { cls := .ref C, dict := dd2, data := data, slots := sl2 } ∧ R (.ok (.ret .notImplemented)) s) :=
  .of_wp fun prog w A R s h => by
    obtain ⟨hp, g, d, tk, os⟩ := s
    obtain ⟨hk, hl, hb, h⟩ := h
    wp_walk using wpAny_loadPart' hl, wpAny_loadPart' hb
    refine (PySem.W.looks_subIn hk hn).here ?_
    wp_walk
    exact ⟨_, rfl, h⟩
theorem str_eq_dec (x : Str) (t : Tok) (b : Addr) (dd2 : Option Addr) (sl2 : Array (Option Value)) (C : Addr) :
    Meets (Builtin.«str.__eq__» ⟨[.str x t, .ref b], []⟩) (fun _ R s => s.heap.get? b = some { cls := .ref C, dict := dd2, data := .plain, slots := sl2 } ∧ R (.ok (.ret .notImplemented)) s) :=
  .of_wp fun prog w A R s h => by
    obtain ⟨hp, g, d, tk, os⟩ := s
    obtain ⟨hb, h⟩ := h
    wp_walk using wpAny_loadPart' hb, wpAny_load hb
    exact ⟨_, rfl, h⟩
theorem int_eq_dec (x : Int) (t : Tok) (b : Addr) (dd2 : Option Addr) (sl2 : Array (Option Value)) (C : Addr) :
    Meets (Builtin.«int.__eq__» ⟨[.int x t, .ref b], []⟩) (fun _ R s => s.heap.get? b = some { cls := .ref C, dict := dd2, data := .plain, slots := sl2 } ∧ R (.ok (.ret .notImplemented)) s) :=
  .of_wp fun prog w A R s h => by
    obtain ⟨hp, g, d, tk, os⟩ := s
    obtain ⟨hb, h⟩ := h
    wp_walk using wpAny_loadPart' hb, wpAny_load hb
    exact ⟨_, rfl, h⟩
theorem non_eq_dec (b : Addr) : Gives (Builtin.«NoneType.__eq__» ⟨[.none, .ref b], []⟩) (.val (Value.notImplemented)) :=
  .of_wp fun M A E s Q h => by obtain ⟨hp, g, d, tk, os⟩ := s; wp_walk; exact ⟨_, rfl, h⟩
theorem lst_ne_dec (l b : Addr) (items : Array Value) (n : Nat) (dd dd2 : Option Addr) (sl sl2 : Array (Option Value)) (C : Addr) (data : Data) (K : PySem.W.Frag) (hn : PySem.W.subIn K (.ref C) (.type "list") = some false) :
    Meets (Builtin.«list.__ne__» ⟨[.ref l, .ref b], []⟩) (fun _ R s => K.In s.heap ∧ s.heap.get? l = some { cls := .type "list", dict := dd, data := .seq items n, slots := sl } ∧ s.heap.get? b = some { cls := .ref C, dict := dd2, data := data, slots := sl2 } ∧ R (.ok (.ret .notImplemented)) s) :=
  .of_wp fun prog w A R s h => by
    obtain ⟨hp, g, d, tk, os⟩ := s
    obtain ⟨hk, hl, hb, h⟩ := h
    wp_walk using wpAny_loadPart' hl, wpAny_loadPart' hb
    refine (PySem.W.looks_subIn hk hn).here ?_
    wp_walk
    exact ⟨_, rfl, h⟩
theorem tup_ne_dec (l b : Addr) (items : Array Value) (n : Nat) (dd dd2 : Option Addr) (sl sl2 : Array (Option Value)) (C : Addr) (data : Data) (K : PySem.W.Frag) (hn : PySem.W.subIn K (.ref C) (.type "tuple") = some false) :
    Meets (Builtin.«tuple.__ne__» ⟨[.ref l, .ref b], []⟩) (fun _ R s => K.In s.heap ∧ s.heap.get? l = some { cls := .type "tuple", dict := dd, data := .seq items n, slots := sl } ∧ s.heap.get? b = some { cls := .ref C, dict := dd2, data := data, slots := sl2 } ∧ R (.ok (.ret .notImplemented)) s) :=
  .of_wp fun prog w A R s h => by
    obtain ⟨hp, g, d, tk, os⟩ := s
    obtain ⟨hk, hl, hb, h⟩ := h
    wp_walk using wpAny_loadPart' hl, wpAny_loadPart' hb
    refine (PySem.W.looks_subIn hk hn).here ?_
    wp_walk
    exact ⟨_, rfl, h⟩
theorem dict_ne_dec (l b : Addr) (dd dd2 : Option Addr) (sl sl2 : Array (Option Value)) (C : Addr) (es : Data) (data : Data) (K : PySem.W.Frag) (hn : PySem.W.subIn K (.ref C) (.type "dict") = some false) :
    Meets (Builtin.«dict.__ne__» ⟨[.ref l, .ref b], []⟩) (fun _ R s => K.In s.heap ∧ s.heap.get? l = some { cls := .type "dict", dict := dd, data := es, slots := sl } ∧ s.heap.get? b = some { cls := .ref C, dict := dd2, data := data, slots := sl2 } ∧ R (.ok (.ret .notImplemented)) s) :=
  .of_wp fun prog w A R s h => by
    obtain ⟨hp, g, d, tk, os⟩ := s
    obtain ⟨hk, hl, hb, h⟩ := h
    wp_walk using wpAny_loadPart' hl, wpAny_loadPart' hb
    refine (PySem.W.looks_subIn hk hn).here ?_
    wp_walk
    exact ⟨_, rfl, h⟩
theorem str_ne_dec (x : Str) (t : Tok) (b : Addr) (dd2 : Option Addr) (sl2 : Array (Option Value)) (C : Addr) :
    Meets (Builtin.«str.__ne__» ⟨[.str x t, .ref b], []⟩) (fun _ R s => s.heap.get? b = some { cls := .ref C, dict := dd2, data := .plain, slots := sl2 } ∧ R (.ok (.ret .notImplemented)) s) :=
  .of_wp fun prog w A R s h => by
    obtain ⟨hp, g, d, tk, os⟩ := s
    obtain ⟨hb, h⟩ := h
    wp_walk using wpAny_loadPart' hb, wpAny_load hb
    exact ⟨_, rfl, h⟩
theorem int_ne_dec (x : Int) (t : Tok) (b : Addr) (dd2 : Option Addr) (sl2 : Array (Option Value)) (C : Addr) :
    Meets (Builtin.«int.__ne__» ⟨[.int x t, .ref b], []⟩) (fun _ R s => s.heap.get? b = some { cls := .ref C, dict := dd2, data := .plain, slots := sl2 } ∧ R (.ok (.ret .notImplemented)) s) :=
  .of_wp fun prog w A R s h => by
    obtain ⟨hp, g, d, tk, os⟩ := s
    obtain ⟨hb, h⟩ := h
    wp_walk using wpAny_loadPart' hb, wpAny_load hb
    exact ⟨_, rfl, h⟩
theorem non_ne_dec (b : Addr) : Gives (Builtin.«NoneType.__ne__» ⟨[.none, .ref b], []⟩) (.val (Value.notImplemented)) :=
  .of_wp fun M A E s Q h => by obtain ⟨hp, g, d, tk, os⟩ := s; wp_walk; exact ⟨_, rfl, h⟩

variable {X : Cx} {k : Nat} {f C : Addr} {fd : FuncData} {ps : List Str} {sp : Sp}
/-- the class is none of the kinds of its strangers -/
structure NoSub (K : PySem.W.Frag) (C : Addr) : Prop where
  tup : PySem.W.subIn K (.ref C) (.type "tuple") = some false
  dct : PySem.W.subIn K (.ref C) (.type "dict") = some false
  str : PySem.W.subIn K (.ref C) (.type "str") = some false
  int : PySem.W.subIn K (.ref C) (.type "int") = some false
  non : PySem.W.subIn K (.ref C) (.type "NoneType") = some false
  lst : PySem.W.subIn K (.ref C) (.type "list") = some false
/-- a stranger -/
def Strg (K : PySem.W.Frag) (v : V) (H : Hp) : Prop := v = .non ∨ (∃ i, v = .int i) ∨ (∃ s, v = .str s) ∨ (∃ a xs, v = .ref a ∧ SqT K H a xs) ∨ (∃ a u, v = .ref a ∧ Rd H a u ∧ isDct u) ∨ ∃ a xs, v = .ref a ∧ SqL K H a xs
section
variable {pins : List (Addr × Obj)} {σ : L2.St} {H : Hp} {s : Shared} {Q : VK} {op : CmpOp} {v : Value} {T id : String} {a dx : Addr} {fs : List (Str × V)}
/-- v == x, x of the class: its own method answers -/
theorem rc_right (hu : X.A.units < cLine) (I : Inv X pins σ H s) (ha : H a = some (.ins C dx fs)) (hT : s.TypeIs v T) (sl : Slot T (cmpInfo op).2.1 id)
    (dec : ∀ Q' : Value → Shared → Prop, Q' .notImplemented s → wpAny (model X.prog X.w) X.A (call (.builtin id) [v, .ref a]) Q' X.xe s) (ns : PySem.W.subIn X.K (.ref C) (.type T) = some false)
    (hs : PySem.W.findIn X.K (.ref C) (cmpInfo op).2.2 = some (some (.ref f))) (hf : PySem.W.isFn X.K (.ref f) = true)
    (h : wpAny (model X.prog X.w) X.A (call (.ref f) [.ref a, v]) (PySem.W.CmpBack (EP X pins σ Q)) X.xe s) : wpAny (model X.prog X.w) X.A (richCompare op v (.ref a)) (EP X pins σ Q) X.xe s := by
  obtain ⟨ox, od, J⟩ := isIns.at_ I ha
  obtain ⟨m, hF⟩ := I.fr
  have XK := I.ok.mod.kin.keeps hF.keep
  rcases hi : cmpInfo op with ⟨sym, g, r⟩
  rw [hi] at sl hs
  simp only [richCompare, hi, hT.oneThing_none]
  refine wpAny_holding (wpAny_bind (wpAny_cRoomFor hu ?_))
  refine wpAny_bind (wpAny_typeOf hT (wpAny_bind (J.type.here ?_)))
  rw [if_pos (by simp)]
  refine wpAny_bind ((PySem.W.looks_subIn XK ns).here ?_)
  simp only [Bool.false_eq_true, if_false, Bool.not_false, if_true]
  refine wpAny_bind (m := tryCompare v _ (.ref a)) (wpAny_tryCompare_declines hT sl (dec _ ⟨rfl, ?_⟩))
  refine wpAny_bind (m := tryCompare (.ref a) _ v) ?_
  unfold tryCompare
  refine wpAny_bind (PySem.W.ifBound_K XK J hs hf (wpAny_mono h (fun w s' hv => ?_) fun _ _ e => e))
  cases w <;> first | exact hv.elim | exact wpAny_pure (wpAny_pure hv)
theorem dict_obj {u : HO} (I : Inv X pins σ H s) (h : Rd H a u) (hd : isDct u) : ∃ o, s.heap.get? a = some o ∧ o.ExactDict := by
  have key : ∀ u : HO, isDct u → ObjOk X.prog X.w H s.heap a u → ∃ o, s.heap.get? a = some o ∧ o.ExactDict := fun u hd hk => by
    cases u <;> try exact (show False from hd).elim
    · obtain ⟨_, _, vs, _, hD⟩ := hk
      obtain ⟨o, es, ep, ho, hx, _⟩ := hD
      exact ⟨o, ho, hx⟩
    · obtain ⟨_, _, xs, _, o, es, ep, h1, h2, _⟩ := hk
      exact ⟨o, h1, h2⟩
  rcases h with h | ⟨o, h⟩
  · exact key u hd (I.hok a _ h)
  · exact key u hd (I.hok a _ h).2
theorem rc_str_eq (hu : X.A.units < cLine) (I : Inv X pins σ H s) (N : NoSub X.K C) (ha : H a = some (.ins C dx fs)) {x : V} (rx : L2.RelV x v) (hx : Strg X.K x H)
    (hs : PySem.W.findIn X.K (.ref C) (cmpInfo .Eq).2.2 = some (some (.ref f))) (hf : PySem.W.isFn X.K (.ref f) = true)
    (h : wpAny (model X.prog X.w) X.A (call (.ref f) [.ref a, v]) (PySem.W.CmpBack (EP X pins σ Q)) X.xe s) : wpAny (model X.prog X.w) X.A (richCompare .Eq v (.ref a)) (EP X pins σ Q) X.xe s := by
  have XK : X.K.In s.heap := by
    obtain ⟨m, hF⟩ := I.fr
    exact I.ok.mod.kin.keeps hF.keep
  obtain ⟨mA, J, _⟩ := ins_get I.hok ha
  have ob := J.obj
  rcases hx with rfl | ⟨i, rfl⟩ | ⟨z, rfl⟩ | ⟨l, xs, rfl, hq⟩ | ⟨l, u, rfl, hq, hd⟩ | ⟨l, xs, rfl, hq⟩
  · cases rx
    exact rc_right hu I ha (T := "NoneType") rfl F.slot_NoneType_eq (fun Q' q => call_gives F.slot_NoneType_eq rfl F.entry_NoneType_eq (F.args_NoneType_eq_2 _ _) (non_eq_dec a) q) N.non hs hf h
  · obtain ⟨tk, e⟩ := rx
    cases e
    exact rc_right hu I ha (T := "int") rfl F.slot_int_eq (fun Q' q => call_meets F.slot_int_eq rfl F.entry_int_eq (F.args_int_eq_2 _ _) (int_eq_dec i tk a _ _ C) ⟨ob, q⟩) N.int hs hf h
  · obtain ⟨tk, e⟩ := rx
    cases e
    exact rc_right hu I ha (T := "str") rfl F.slot_str_eq (fun Q' q => call_meets F.slot_str_eq rfl F.entry_str_eq (F.args_str_eq_2 _ _) (str_eq_dec z tk a _ _ C) ⟨ob, q⟩) N.str hs hf h
  · cases rx
    obtain ⟨its, _, hl, _⟩ := I.tuple hq
    obtain ⟨⟨cls, dd, data, sl⟩, ho, hc, n, hd⟩ := id hl
    simp only at hc hd
    subst hc hd
    exact rc_right hu I ha (T := "tuple") ⟨_, ho, rfl⟩ F.slot_tuple_eq (fun Q' q => call_meets F.slot_tuple_eq ⟨_, ho, rfl⟩ F.entry_tuple_eq (F.args_tuple_eq_2 _ _) (tup_eq_dec l a _ n dd _ sl _ C _ X.K N.tup) ⟨XK, ho, ob, q⟩) N.tup hs hf h
  · cases rx
    obtain ⟨⟨cls, dd, data, sl⟩, ho, hc, hdn, hsl⟩ := dict_obj I hq hd
    simp only at hc hdn hsl
    subst hc
    exact rc_right hu I ha (T := "dict") ⟨_, ho, rfl⟩ F.slot_dict_eq (fun Q' q => call_meets F.slot_dict_eq ⟨_, ho, rfl⟩ F.entry_dict_eq (F.args_dict_eq_2 _ _) (dict_eq_dec l a dd _ sl _ C data _ X.K N.dct) ⟨XK, ho, ob, q⟩) N.dct hs hf h
  · cases rx
    obtain ⟨its, _, hl, _⟩ := I.list hq
    obtain ⟨⟨cls, dd, data, sl⟩, ho, hc, n, hd⟩ := id hl.isList
    simp only at hc hd
    subst hc hd
    exact rc_right hu I ha (T := "list") ⟨_, ho, rfl⟩ F.slot_list_eq (fun Q' q => call_meets F.slot_list_eq ⟨_, ho, rfl⟩ F.entry_list_eq (F.args_list_eq_2 _ _) (lst_eq_dec l a _ n dd _ sl _ C _ X.K N.lst) ⟨XK, ho, ob, q⟩) N.lst hs hf h
theorem rc_str_ne (hu : X.A.units < cLine) (I : Inv X pins σ H s) (N : NoSub X.K C) (ha : H a = some (.ins C dx fs)) {x : V} (rx : L2.RelV x v) (hx : Strg X.K x H)
    (hs : PySem.W.findIn X.K (.ref C) (cmpInfo .NotEq).2.2 = some (some (.ref f))) (hf : PySem.W.isFn X.K (.ref f) = true)
    (h : wpAny (model X.prog X.w) X.A (call (.ref f) [.ref a, v]) (PySem.W.CmpBack (EP X pins σ Q)) X.xe s) : wpAny (model X.prog X.w) X.A (richCompare .NotEq v (.ref a)) (EP X pins σ Q) X.xe s := by
  have XK : X.K.In s.heap := by
    obtain ⟨m, hF⟩ := I.fr
    exact I.ok.mod.kin.keeps hF.keep
  obtain ⟨mA, J, _⟩ := ins_get I.hok ha
  have ob := J.obj
  rcases hx with rfl | ⟨i, rfl⟩ | ⟨z, rfl⟩ | ⟨l, xs, rfl, hq⟩ | ⟨l, u, rfl, hq, hd⟩ | ⟨l, xs, rfl, hq⟩
  · cases rx
    exact rc_right hu I ha (T := "NoneType") rfl F.slot_NoneType_ne (fun Q' q => call_gives F.slot_NoneType_ne rfl F.entry_NoneType_ne (F.args_NoneType_ne_2 _ _) (non_ne_dec a) q) N.non hs hf h
  · obtain ⟨tk, e⟩ := rx
    cases e
    exact rc_right hu I ha (T := "int") rfl F.slot_int_ne (fun Q' q => call_meets F.slot_int_ne rfl F.entry_int_ne (F.args_int_ne_2 _ _) (int_ne_dec i tk a _ _ C) ⟨ob, q⟩) N.int hs hf h
  · obtain ⟨tk, e⟩ := rx
    cases e
    exact rc_right hu I ha (T := "str") rfl F.slot_str_ne (fun Q' q => call_meets F.slot_str_ne rfl F.entry_str_ne (F.args_str_ne_2 _ _) (str_ne_dec z tk a _ _ C) ⟨ob, q⟩) N.str hs hf h
  · cases rx
    obtain ⟨its, _, hl, _⟩ := I.tuple hq
    obtain ⟨⟨cls, dd, data, sl⟩, ho, hc, n, hd⟩ := id hl
    simp only at hc hd
    subst hc hd
    exact rc_right hu I ha (T := "tuple") ⟨_, ho, rfl⟩ F.slot_tuple_ne (fun Q' q => call_meets F.slot_tuple_ne ⟨_, ho, rfl⟩ F.entry_tuple_ne (F.args_tuple_ne_2 _ _) (tup_ne_dec l a _ n dd _ sl _ C _ X.K N.tup) ⟨XK, ho, ob, q⟩) N.tup hs hf h
  · cases rx
    obtain ⟨⟨cls, dd, data, sl⟩, ho, hc, hdn, hsl⟩ := dict_obj I hq hd
    simp only at hc hdn hsl
    subst hc
    exact rc_right hu I ha (T := "dict") ⟨_, ho, rfl⟩ F.slot_dict_ne (fun Q' q => call_meets F.slot_dict_ne ⟨_, ho, rfl⟩ F.entry_dict_ne (F.args_dict_ne_2 _ _) (dict_ne_dec l a dd _ sl _ C data _ X.K N.dct) ⟨XK, ho, ob, q⟩) N.dct hs hf h
  · cases rx
    obtain ⟨its, _, hl, _⟩ := I.list hq
    obtain ⟨⟨cls, dd, data, sl⟩, ho, hc, n, hd⟩ := id hl.isList
    simp only at hc hd
    subst hc hd
    exact rc_right hu I ha (T := "list") ⟨_, ho, rfl⟩ F.slot_list_ne (fun Q' q => call_meets F.slot_list_ne ⟨_, ho, rfl⟩ F.entry_list_ne (F.args_list_ne_2 _ _) (lst_ne_dec l a _ n dd _ sl _ C _ X.K N.lst) ⟨XK, ho, ob, q⟩) N.lst hs hf h
end
end
end GK

namespace GK
open PySem PySem.Spec PyProof.Rows L2
section
variable {X : Cx} {k : Nat} {f C : Addr} {fd : FuncData} {ps : List Str} {sp : Sp}
theorem strg_type {pins : List (Addr × Obj)} {σ : L2.St} {H : Hp} {s : Shared} {x : V} {v : Value} (I : Inv X pins σ H s) (rx : L2.RelV x v) (hx : Strg X.K x H) : ∃ T, PySem.W.Looks (model X.prog X.w) s.heap (typeOf v) (.type T) ∧ PySem.W.notFirst X.K C (.type T) = true := by
  rcases hx with rfl | ⟨i, rfl⟩ | ⟨z, rfl⟩ | ⟨l, xs, rfl, hq⟩ | ⟨l, u, rfl, hq, hd⟩ | ⟨l, xs, rfl, hq⟩
  · cases rx
    exact ⟨"NoneType", .of_pure rfl, rfl⟩
  · obtain ⟨tk, e⟩ := rx
    cases e
    exact ⟨"int", .of_pure rfl, rfl⟩
  · obtain ⟨tk, e⟩ := rx
    cases e
    exact ⟨"str", .of_pure rfl, rfl⟩
  · cases rx
    obtain ⟨its, _, hl, _⟩ := I.tuple hq
    obtain ⟨o, ho, hc, _⟩ := id hl
    exact ⟨"tuple", hc ▸ (PySem.W.Looks.ld ho).andThen .now, rfl⟩
  · cases rx
    obtain ⟨o, ho, hc, _⟩ := dict_obj I hq hd
    exact ⟨"dict", hc ▸ (PySem.W.Looks.ld ho).andThen .now, rfl⟩
  · cases rx
    obtain ⟨its, _, hl, _⟩ := I.list hq
    obtain ⟨o, ho, hc, _⟩ := id hl.isList
    exact ⟨"list", hc ▸ (PySem.W.Looks.ld ho).andThen .now, rfl⟩
/-- x == y, x != y: one of the class, the other of it too or a stranger -/
theorem op_ownCmpU {op : CmpOp} (ho : op = .Eq ∨ op = .NotEq) (N : NoSub X.K C) (F : FnOk X.prog X.w X.K X.mg X.base CX0 k f fd ps sp) (hr : Room k X.A) (hb : Binds X.K fd ps []) (hs : PySem.W.findIn X.K (.ref C) (cmpInfo op).2.1 = some (some (.ref f))) (hf : PySem.W.isFn X.K (.ref f) = true) :
    OpR X (compareOp op) (fun x y H Q => (isIns C x H ∧ (isIns C y H ∨ Strg X.K y H) ∧ sp [x, y] H Q fun _ _ _ => False) ∨ (Strg X.K x H ∧ isIns C y H ∧ sp [y, x] H Q fun _ _ _ => False)) := by
  intro pins s σ H x y v u Q I rx ry h
  have hop : compareOp op = richCompare op := by rcases ho with rfl | rfl <;> rfl
  rw [hop]
  obtain ⟨m, hF⟩ := I.fr
  rcases h with ⟨⟨a, dx, fs, ex, ha⟩, hy, h⟩ | ⟨hx, ⟨a, dx, fs, ex, ha⟩, h⟩
  · subst ex
    have rx0 : L2.RelV (.ref a) v := rx
    cases rx
    obtain ⟨ox, od, J⟩ := isIns.at_ I ha
    obtain ⟨tb, ht, hn⟩ : ∃ tb, PySem.W.Looks (model X.prog X.w) s.heap (typeOf u) tb ∧ PySem.W.notFirst X.K C tb = true := by
      rcases hy with ⟨b, dy, gs, ey, hb'⟩ | hy
      · subst ey
        cases ry
        obtain ⟨oy, od', J'⟩ := isIns.at_ I hb'
        exact ⟨_, J'.type, by simp [PySem.W.notFirst]⟩
      · obtain ⟨T, h1, h2⟩ := strg_type (C := C) I ry hy
        exact ⟨_, h1, h2⟩
    refine PySem.W.cmp_K hr.units0 hF I.ok.mod.kin J ht hn hs hf ?_
    refine wpAny_mono (run_sub (us := [.ref a, u]) (vs := [.ref a, y]) ⟨hr, rfl⟩ F hb .nil I (.cons rfl (.cons ry .nil)) h) (fun r s' z => ?_) fun _ _ x => x
    obtain ⟨w, H', I', rv, q⟩ := z
    exact cmpBack I' rv q
  · subst ex
    cases ry
    have fin : wpAny (model X.prog X.w) X.A (call (.ref f) [.ref a, v]) (PySem.W.CmpBack (EP X pins σ Q)) X.xe s := by
      refine wpAny_mono (run_sub (us := [.ref a, v]) (vs := [.ref a, x]) ⟨hr, rfl⟩ F hb .nil I (.cons rfl (.cons rx .nil)) h) (fun r s' z => ?_) fun _ _ x => x
      obtain ⟨w, H', I', rv, q⟩ := z
      exact cmpBack I' rv q
    rcases ho with rfl | rfl
    · exact rc_str_eq hr.units0 I N ha rx hx hs hf fin
    · exact rc_str_ne hr.units0 I N ha rx hx hs hf fin
end
def strgD : D → Prop
  | .non => True
  | .int _ => True
  | .str _ => True
  | .tup _ => True
  | .lst _ => True
  | .dK _ => True
  | .dT _ => True
  | _ => False
theorem strgD.ok {K : PySem.W.Frag} {B : List Addr} {F H : Hp} {v : V} {d : D} (w : WF B F H) (r : GK.R K F v d) (h : strgD d) : Strg K v H := by
  cases r <;> try exact h.elim
  · exact .inl rfl
  · exact .inr (.inl ⟨_, rfl⟩)
  · exact .inr (.inr (.inl ⟨_, rfl⟩))
  · rename_i e _
    exact .inr (.inr (.inr (.inl ⟨_, _, rfl, sqT_rd (w.sub _ _ e)⟩)))
  · rename_i e _
    exact .inr (.inr (.inr (.inr (.inr ⟨_, _, rfl, sqL_rd (w.sub _ _ e)⟩))))
  · rename_i e _ _
    exact .inr (.inr (.inr (.inr (.inl ⟨_, _, rfl, rd_of_rdH (w.sub _ _ e), trivial⟩))))
  · rename_i e _ _
    exact .inr (.inr (.inr (.inr (.inl ⟨_, _, rfl, rd_of_rdH (w.sub _ _ e), trivial⟩))))
/-- one of the class; the other of it too, or a stranger -/
def gCmpU (C : Addr) (W : FSpec) (x y : D) (R : D → Prop) : Prop := (isObj C x ∧ (isObj C y ∨ strgD y) ∧ W [x, y] R) ∨ (strgD x ∧ isObj C y ∧ W [y, x] R)
section
variable {X : Cx} {B : List Addr} {k k' : Nat} {C : Addr} {ps : List Str} {pos : Pos} {a b : Expr} {m : Mode} {f1 f2 : FE} {W : BSpec} {mt : Str}
theorem tD_ownU {σ : L2.St} {H : Hp} {Q : VK} (h : tD X.K B m (fun ρ R => f1 ρ fun x => f2 ρ fun y => gCmpU C (W B) x y R) σ H Q) :
    tOp (fun x y H Q => (isIns C x H ∧ (isIns C y H ∨ Strg X.K y H) ∧ spD X.K m W [x, y] H Q fun _ _ _ => False) ∨ (Strg X.K x H ∧ isIns C y H ∧ spD X.K m W [y, x] H Q fun _ _ _ => False)) (tD X.K B (.own 0) f1) (tD X.K B (.own 0) f2) σ H Q := by
  obtain ⟨F, ρ, fp, R, S, hf, kk⟩ := h
  refine ⟨F, ρ, fp, _, S, hf, fun F1 H1 v x g1 s1 hv o1 n1 hR => ?_⟩
  refine ⟨F1, ρ, fp, _, S.step s1 (fun a ha => by cases ha), hR, fun F2 H2 w y g2 s2 hw o2 n2 hG => ?_⟩
  have rx : GK.R X.K F2 v x := hv.1.mono s2.fs
  have ry : GK.R X.K F2 w y := hw.1
  have ins : ∀ {v : V} {x : D}, GK.R X.K F2 v x → isObj C x → isIns C v H2 := fun {v x} r hx => by
    obtain ⟨es, rfl⟩ := hx.inv
    obtain ⟨a1, d1, l1, ev, ea, _, _⟩ := r.objI
    exact ⟨a1, d1, l1, ev, ins_of s2.wf (s2.wf.sub _ _ ea)⟩
  have k2 := (kk.after s1 (A1 := []) fun a ha => (by cases ha)).after s2 (A1 := []) fun a ha => (by cases ha)
  rcases hG with ⟨hx, hy, hW⟩ | ⟨hx, hy, hW⟩
  · exact .inl ⟨ins rx hx, hy.imp (ins ry) (fun h => h.ok s2.wf ry), call_all s2.wf (.cons rx (.cons ry .nil)) hW k2⟩
  · exact .inr ⟨hx.ok s2.wf rx, ins ry hy, call_all s2.wf (.cons ry (.cons rx .nil)) hW k2⟩
theorem de_ownCmpU {op : CmpOp} (N : NoSub X.K C) (c : CalM X.prog X.w X.K X.mg X.base C mt k ps m [] W) (hr : Room k' X.A) (ha : DE X B a (.own 0) f1) (hb : DE X B b (.own 0) f2) (hk : k ≤ k' := by decide) (ho : op = .Eq ∨ op = .NotEq := by first | exact Or.inl rfl | exact Or.inr rfl) (hmt : (cmpInfo op).2.1 = mt := by decide) (hbm : behindInMarks op b = false := by rfl) :
    DE X B (.Compare a [op] [b] pos) m (fun ρ R => f1 ρ fun x => f2 ρ fun y => gCmpU C (W B) x y R) := by
  obtain ⟨f, fd, ds, dvs, F, hm, hbd, hd, hdd⟩ := c.ex
  obtain ⟨rfl, rfl⟩ := dflt_nil hd hdd
  exact PE.imp (pe_cmpR (op_ownCmpU ho N F (hr.mono hk) hbd (by rw [hmt]; exact hm.at_) hm.fn) ha hb hbm) fun σ H Q q => tD_ownU q
theorem dt_ownCmpU {op : CmpOp} (N : NoSub X.K C) (c : CalM X.prog X.w X.K X.mg X.base C mt k ps m [] W) (hr : Room k' X.A) (ha : DE X B a (.own 0) f1) (hb : DE X B b (.own 0) f2) (hk : k ≤ k' := by decide) (ho : op = .Eq ∨ op = .NotEq := by first | exact Or.inl rfl | exact Or.inr rfl) (hmt : (cmpInfo op).2.1 = mt := by decide) (hbm : behindInMarks op b = false := by rfl) :
    DT X B (.Compare a [op] [b] pos) (fBool fun ρ R => f1 ρ fun x => f2 ρ fun y => gCmpU C (W B) x y R) := by
  obtain ⟨f, fd, ds, dvs, F, hm, hbd, hd, hdd⟩ := c.ex
  obtain ⟨rfl, rfl⟩ := dflt_nil hd hdd
  exact PT.imp (pt_cmpR (op_ownCmpU ho N F (hr.mono hk) hbd (by rw [hmt]; exact hm.at_) hm.fn) ha hb hbm) fun σ H Q q => tD_ownU (tD_bool q)
end
end GK

namespace GK
open PySem PySem.Spec PyProof.Rows L2
/-! ### the empty tuple that stands as a default -/
def EmpT (K : PySem.W.Frag) (a : Addr) : Prop := ∃ (o : Obj) (n : Nat), K.lookup a = some o ∧ o.cls = .type "tuple" ∧ o.data = .seq #[] n
theorem EmpT.sq {K : PySem.W.Frag} {a : Addr} (h : EmpT K a) (H : Hp) : SqT K H a [] := by
  obtain ⟨o, n, h1, h2, h3⟩ := h
  exact .inr ⟨o, #[], n, h1, h2, h3, by decide, .nil⟩
/-- a list, a tuple, or the empty tuple at e -/
def seqOfE (e : Addr) (R : List D → Prop) : D → Prop
  | .lst xs => R xs
  | .tup xs => R xs
  | .raw v => v = .ref e ∧ R []
  | _ => False
theorem seqOfE_lst {e : Addr} {R : List D → Prop} {xs : List D} : seqOfE e R (.lst xs) = R xs := rfl
theorem seqOfE_tup {e : Addr} {R : List D → Prop} {xs : List D} : seqOfE e R (.tup xs) = R xs := rfl
theorem seqOfE_raw {e : Addr} {R : List D → Prop} (h : R []) : seqOfE e R (.raw (.ref e)) := ⟨rfl, h⟩
theorem di_seqE {X : Cx} {B : List Addr} {tg e : Expr} {f : FE} {de : Addr} (E0 : EmpT X.K de) (h : DE X B e (.own 0) f) : DI X B tg e (fun ρ R => f ρ (seqOfE de R)) := PI.imp (pi_seqU h) fun σ H R ⟨F, ρ, fp, Rx, S, hf, k⟩ => ⟨F, ρ, fp, _, S, hf, fun F1 H1 v d f1 s1 hv o1 n1 hR => by
  have S1 := outF (S.step s1 fun a h => by cases h)
  have hv : GK.R X.K F1 v d := (show Own X.K F1 H1 0 v d f1 from hv).1
  cases d <;> try exact (show False from hR).elim
  · obtain ⟨ev, hR⟩ := hR
    cases hv
    subst ev
    exact ⟨de, [], rfl, .inr ⟨E0.sq _, k _ F1 H1 [] s1 (fun i F H _ _ _ => ⟨fun h => absurd h (Nat.not_lt_zero _), fun _ => ⟨[], E0.sq _, Nat.zero_le _⟩⟩) hR⟩⟩
  · obtain ⟨a, vs, rfl, h1, r⟩ := hv.tupI
    exact ⟨a, vs, rfl, .inr ⟨tup_sub s1.wf h1, k _ F1 H1 _ s1 (itD_tup S1 s1.wf h1 r) hR⟩⟩
  · obtain ⟨a, vs, rfl, h1, r⟩ := hv.lstI
    exact ⟨a, vs, rfl, .inl ⟨lst_sub s1.wf h1, k _ F1 H1 _ s1 (itD_list S1 s1.wf h1 r) hR⟩⟩⟩
/-! ### tuple(xs) of a list that others own -/
def gTupR : List D → (D → Prop) → Prop
  | [.lst xs], R => R (.tup xs)
  | _, _ => False
theorem opN_tupR {K : PySem.W.Frag} : OpN K (fun xs H Q => ∃ p ys, xs = [.ref p] ∧ ((SqL K H p ys ∧ ∀ l, H l = none → Q (.ref l) (upd H l (.tup ys))) ∨ (SqT K H p ys ∧ Q (.ref p) H))) [.rd] .rd gTupR := by
  intro B F H vs ds fp R Q w hv hf hg k
  unfold gTupR at hg
  split at hg
  · obtain ⟨v, rfl, h⟩ := hv.one
    obtain ⟨a, xs, rfl, ha, r⟩ := h.1.lstI
    refine ⟨a, xs, rfl, .inl ⟨sqL_rd ha, fun l hl => ?_⟩⟩
    have s := Step.laid (A := fp) w hl (o := .tup xs) rfl
    exact k F _ (.ref l) (.tup _) [] s ⟨.tup (rdH_of (w.notB hl) upd_same rfl) (r.mono (rdH_same s.same)), rfl⟩ (fun a h => by cases h) List.nodup_nil hg
  · exact hg.elim
theorem de_tupR {X : Cx} {B : List Addr} {e : Expr} {f : FE} {p pos : Pos} {m : Mode} (hz : X.mg "tuple" = none) (ha : DE X B e m f) (hg : Gl X "tuple" := by rfl) (he : starEach [e] X.env = (false, eval e X.env) :: starEach [] X.env := by rfl) (hpl : (backTo pos (starEach [] X.env)).any (·.1) = false := by rfl) :
    DE X B (.Call (.Name "tuple" p) [e] [] pos) .rd (fArgs gTupR (fCons f fNil)) := de_Ty call_tuple_of opN_tupR hg hz (by decide +kernel) (da_cons (de_rd ha) da_nil he) (by decide) (by decide) he hpl
end GK

namespace GK
open PySem PySem.Spec PyProof.Rows L2
/-! ### isinstance by a class of the text -/
structure IsiF (K : PySem.W.Frag) (C : Addr) : Prop where
  ic : IsiC K C
  own : PySem.W.kitOne K (.ref C) (.ref C) = some true
  tup : PySem.W.kitOne K (.type "tuple") (.ref C) = some false
  lst : PySem.W.kitOne K (.type "list") (.ref C) = some false
  dct : PySem.W.kitOne K (.type "dict") (.ref C) = some false
  str : PySem.W.kitOne K (.type "str") (.ref C) = some false
  int : PySem.W.kitOne K (.type "int") (.ref C) = some false
  bl : PySem.W.kitOne K (.type "bool") (.ref C) = some false
  non : PySem.W.kitOne K (.type "NoneType") (.ref C) = some false
def clsB (C : Addr) : D → Option Bool
  | .obj C' _ => if C' = C then some true else none
  | .tup _ => some false
  | .lst _ => some false
  | .dK _ => some false
  | .str _ => some false
  | .int _ => some false
  | .bl _ => some false
  | .non => some false
  | _ => none
theorem gIsi_cls {K : PySem.W.Frag} {C : Addr} (I : IsiF K C) {d : D} {b : Bool} {R : D → Prop} (h : clsB C d = some b) (q : R (.bl b)) : gIsi K [d, .raw (.ref C)] R := by
  cases d <;> try (cases h; done)
  · cases h; exact ⟨_, _, _, rfl, rfl, I.non, fun _ _ e => (by cases e), q⟩
  · cases h; exact ⟨_, _, _, rfl, rfl, I.bl, fun _ _ e => (by cases e), q⟩
  · cases h; exact ⟨_, _, _, rfl, rfl, I.int, fun _ _ e => (by cases e), q⟩
  · cases h; exact ⟨_, _, _, rfl, rfl, I.str, fun _ _ e => (by cases e), q⟩
  · cases h; exact ⟨_, _, _, rfl, rfl, I.tup, fun _ _ e => (by cases e), q⟩
  · cases h; exact ⟨_, _, _, rfl, rfl, I.lst, fun _ _ e => (by cases e), q⟩
  · cases h; exact ⟨_, _, _, rfl, rfl, I.dct, fun _ _ e => (by cases e), q⟩
  · rename_i C' es
    have h2 : (if C' = C then some true else none) = some b := h
    by_cases e : C' = C
    · rw [if_pos e] at h2
      have h3 : true = b := Option.some.inj h2
      rw [← h3] at q
      rw [e]
      exact ⟨_, _, _, rfl, rfl, I.own, fun _ _ e => (by cases e; exact I.ic), q⟩
    · rw [if_neg e] at h2; cases h2
end GK

namespace GK
open PySem PySem.Spec PyProof.Rows L2
/-! ### == and != of dicts that are alike -/
section
variable {X : Cx}
def rEqM (n : Bool) : R2 := fun x y H Q => ∃ a b ks ls, x = .ref a ∧ y = .ref b ∧ Rd H a (.dK ks) ∧ Rd H b (.dK ls) ∧ ks.length = ls.length ∧ (∀ p ∈ ks, valV ls p.1 = some p.2 ∧ flatB p.2 = true) ∧ Q (.bl (n ^^ true)) H
theorem rd_dK {pins : List (Addr × Obj)} {σ : L2.St} {H : Hp} {s : Shared} {a : Addr} {ks : List (Key × V)} (I : Inv X pins σ H s) (h : Rd H a (.dK ks)) : ObjOk X.prog X.w H s.heap a (.dK ks) := by
  rcases h with h | ⟨o, h⟩
  · exact I.hok a _ h
  · exact (I.hok a _ h).2
theorem op_eqM (hu : X.A.units < cLine) : OpR X (compareOp .Eq) (rEqM false) := by
  intro pins s σ H x y v u Q I rx ry h
  obtain ⟨a, b, ks, ls, rfl, rfl, ea, eb, hlen, hp, q⟩ := h
  obtain rfl : v = Value.ref a := rx
  obtain rfl : u = Value.ref b := ry
  obtain ⟨_, ya, va, ra, da⟩ := rd_dK I ea
  obtain ⟨_, yb, vb, rb, db⟩ := rd_dK I eb
  have hl : va.length = vb.length := by rw [← ra.length, ← rb.length]; exact hlen
  exact PySem.W.keq_eq (knd := mixKind X.prog X.w) (r := true) ya yb da db hu (fun _ => hits_all rb ra hp) (fin_bl I q (by simp [hl]))
theorem op_neM (hu : X.A.units < cLine) : OpR X (compareOp .NotEq) (rEqM true) := by
  intro pins s σ H x y v u Q I rx ry h
  obtain ⟨a, b, ks, ls, rfl, rfl, ea, eb, hlen, hp, q⟩ := h
  obtain rfl : v = Value.ref a := rx
  obtain rfl : u = Value.ref b := ry
  obtain ⟨_, ya, va, ra, da⟩ := rd_dK I ea
  obtain ⟨_, yb, vb, rb, db⟩ := rd_dK I eb
  have hl : va.length = vb.length := by rw [← ra.length, ← rb.length]; exact hlen
  exact PySem.W.keq_ne (knd := mixKind X.prog X.w) (r := true) ya yb da db hu (fun _ => hits_all rb ra hp) (fin_bl I q (by simp [hl]))
end
def atomB : D → Bool
  | .non => true
  | .bl _ => true
  | .int _ => true
  | .str _ => true
  | _ => false
/-- dicts that say the same -/
def gEqM (n : Bool) (x y : D) (R : D → Prop) : Prop := ∃ es gs, x = .dK es ∧ y = .dK gs ∧ es.length = gs.length ∧ (∀ p ∈ es, getD' gs p.1 = some p.2 ∧ atomB p.2 = true) ∧ R (.bl (n ^^ true))
theorem gEqM_self {n : Bool} {es : List (Key × D)} {R : D → Prop} (nd : (es.map (·.1)).Nodup) (h : ∀ p ∈ es, atomB p.2 = true) (q : R (.bl (n ^^ true))) : gEqM n (.dK es) (.dK es) R := by
  refine ⟨es, es, rfl, rfl, rfl, fun p hp => ⟨?_, h p hp⟩, q⟩
  clear h q
  induction es with
  | nil => cases hp
  | cons e es ih =>
    rw [List.map_cons] at nd
    obtain ⟨n1, n2⟩ := List.nodup_cons.mp nd
    rcases List.mem_cons.mp hp with z | z
    · subst z; simp [getD']
    · have : ¬ e.1 = p.1 := fun q => n1 (by rw [q]; exact List.mem_map.mpr ⟨p, z, rfl⟩)
      have ih := ih n2 z
      unfold getD' at ih ⊢
      rw [List.find?_cons, decide_eq_false this]
      exact ih
theorem atom_det {K : PySem.W.Frag} {F G : Hp} {v w : V} {d : D} (h : atomB d = true) (r : GK.R K F v d) (r' : GK.R K G w d) : v = w ∧ flatB v = true := by
  cases d <;> try (cases h; done)
  all_goals cases r; cases r'; exact ⟨rfl, rfl⟩
section
variable {K : PySem.W.Frag} {m m1 m2 : Mode} {n : Bool}
theorem op2_eqM : Op2 K (rEqM n) m1 m2 m (gEqM n) := by
  intro B F H x y d e fp R Q w ⟨f1, f2, ef, h1, h2⟩ hfp hg k
  obtain ⟨es, gs, rfl, rfl, hl, hp, hR⟩ := hg
  have r1 : GK.R K (rdH B H) x (.dK es) := h1.rd w fun a ha => (hfp.1 a (by rw [ef]; exact List.mem_append_left _ ha)).2
  have r2 : GK.R K (rdH B H) y (.dK gs) := h2.rd w fun a ha => (hfp.1 a (by rw [ef]; exact List.mem_append_right _ ha)).2
  obtain ⟨a, ks, rfl, e1, k1, t1⟩ := r1.dKI
  obtain ⟨b, ls, rfl, e2, k2, t2⟩ := r2.dKI
  have l1 : ks.length = es.length := by have := congrArg List.length k1; simpa using this
  have l2 : ls.length = gs.length := by have := congrArg List.length k2; simpa using this
  refine ⟨a, b, ks, ls, rfl, rfl, rd_of_rdH e1, rd_of_rdH e2, by omega, fun p hpk => ?_, k.bl w hR⟩
  obtain ⟨i, hi, hpi⟩ := List.getElem_of_mem hpk
  have hi2 : i < es.length := by omega
  have ek : (es.map (·.1))[i]? = some p.1 := by
    rw [← k1, List.getElem?_map, List.getElem?_eq_getElem hi, hpi]; rfl
  have ek2 : es[i].1 = p.1 := by
    rw [List.getElem?_map, List.getElem?_eq_getElem hi2] at ek
    exact Option.some.inj ek
  obtain ⟨v, ev, rv⟩ := t1.get (i := i) (d := es[i].2) (by rw [List.getElem?_map, List.getElem?_eq_getElem hi2]; rfl)
  have ev2 : p.2 = v := by
    rw [List.getElem?_map, List.getElem?_eq_getElem hi, hpi] at ev
    exact Option.some.inj ev
  obtain ⟨g1, g2⟩ := hp es[i] (List.getElem_mem hi2)
  obtain ⟨j, kk, c1, c2, c3, c4, _⟩ := get_at k2 g1
  obtain ⟨w2, ew, rw2⟩ := t2.get c3
  have := c4 w2 ew
  obtain ⟨hvw, hfl⟩ := atom_det g2 rv rw2
  rw [ek2] at this
  rw [ev2]
  exact ⟨by rw [this, hvw], hfl⟩
variable {X : Cx} {B : List Addr} {a b : Expr} {pos : Pos} {f f' : FE}
theorem de_eqM (hu : X.A.units + 1 < cLine) (ha : DE X B a m1 f) (hb : DE X B b m2 f') : DE X B (.Compare a [.Eq] [b] pos) m (fBin (gEqM false) f f') := de_cmp (op_eqM (by omega)) op2_eqM ha hb (nomark _)
theorem de_neM (hu : X.A.units + 1 < cLine) (ha : DE X B a m1 f) (hb : DE X B b m2 f') : DE X B (.Compare a [.NotEq] [b] pos) m (fBin (gEqM true) f f') := de_cmp (op_neM (by omega)) op2_eqM ha hb (nomark _)
theorem dt_eqM (hu : X.A.units + 1 < cLine) (ha : DE X B a m1 f) (hb : DE X B b m2 f') : DT X B (.Compare a [.Eq] [b] pos) (fBool (fBin (gEqM false) f f')) := dt_cmp .rd (op_eqM (by omega)) op2_eqM ha hb (nomark _)
theorem dt_neM (hu : X.A.units + 1 < cLine) (ha : DE X B a m1 f) (hb : DE X B b m2 f') : DT X B (.Compare a [.NotEq] [b] pos) (fBool (fBin (gEqM true) f f')) := dt_cmp .rd (op_neM (by omega)) op2_eqM ha hb (nomark _)
end
end GK

namespace GK
open PySem PySem.Spec PyProof.Rows
theorem kitOne_self {K : PySem.W.Frag} {C : Addr} : PySem.W.kitOne K (.ref C) (.ref C) = some true := by
  unfold PySem.W.kitOne
  have e : ((Value.ref C) == (Value.ref C)) = true := by first | exact beq_self_eq_true _ | simp | (show (C == C) = true; exact beq_self_eq_true _)
  rw [if_pos e]
theorem kitOne_type {K : PySem.W.Frag} {C : Addr} {T : String} (h1 : PySem.W.isClsIn K C = true) (h2 : PySem.W.typeIn K (.ref C) = some (.type "type")) (h : PySem.W.subIn K (.type T) (.ref C) = some false) : PySem.W.kitOne K (.type T) (.ref C) = some false := by
  have h0 : (PySem.W.clsIn K C).isSome = true := h1
  have e2 : (PySem.W.typeIn K (.ref C) == some (.type "type")) = true := by rw [h2]; rfl
  unfold PySem.W.kitOne PySem.W.kitCls
  rw [if_neg (by first | exact Bool.false_ne_true | simp)]
  show (if ((PySem.W.clsIn K C).isSome && PySem.W.typeIn K (.ref C) == some (.type "type")) = true then _ else _) = _
  rw [if_pos (by rw [h0, e2]; rfl)]
  exact h
end GK

/-! ### sorted: rows that need only be alike up to the first place where they differ -/
namespace PySem.GKC
open PySem PySem.W PySem.SeqAt PySem.Calls PyProof.Rows
open MeetsSeq MeetsSeq2 MeetsSeq3 SeqRoads2

mutual
/-- the two can be compared: place by place up to the first that differs -/
def cmpb : PyData → PyData → Bool
  | .bool _, .bool _ => true
  | .int _, .int _ => true
  | .str _, .str _ => true
  | .tuple xs, .tuple ys => cmpAll xs ys
  | _, _ => false
def cmpAll : List PyData → List PyData → Bool
  | x :: xs, y :: ys => cmpb x y && (!PyData.eqv x y || cmpAll xs ys)
  | [], _ => true
  | _ :: _, [] => true
end
theorem cmp_cons {x y : PyData} {xs ys : List PyData} (h : cmpAll (x :: xs) (y :: ys) = true) : cmpb x y = true ∧ (PyData.eqv x y = true → cmpAll xs ys = true) := by
  rw [cmpAll, Bool.and_eq_true] at h
  refine ⟨h.1, fun e => ?_⟩
  have := h.2
  rw [e] at this
  simpa using this
mutual
theorem cmp_toks : ∀ (x y : PyData), cmpb x y = true → (PyData.eqv x y = true → keyToks x = keyToks y) ∧ (PyData.eqv x y = false → ∀ l m, PyProof.Rows.lexLt itemOrd (keyToks x ++ l) (keyToks y ++ m) = PyProof.Rows.lexLt itemOrd (keyToks x) (keyToks y))
  | .none, y, h => absurd h (by cases y <;> simp [cmpb])
  | .bool a, y, h => by
    cases y with
    | bool b => exact toks_eqv (.bool a) (.bool b) (by simp [alike])
    | _ => exact absurd h (by simp [cmpb])
  | .int a, y, h => by
    cases y with
    | int b => exact toks_eqv (.int a) (.int b) (by simp [alike])
    | _ => exact absurd h (by simp [cmpb])
  | .str a, y, h => by
    cases y with
    | str b => exact toks_eqv (.str a) (.str b) (by simp [alike])
    | _ => exact absurd h (by simp [cmpb])
  | .list xs, y, h => absurd h (by cases y <;> simp [cmpb])
  | .dict xs, y, h => absurd h (by cases y <;> simp [cmpb])
  | .tuple xs, y, h => by
    cases y with
    | tuple ys =>
      have t := cmp_toksAll xs ys (by simpa [cmpb] using h)
      simp only [keyToks, PyData.eqv]
      exact t
    | _ => exact absurd h (by simp [cmpb])
theorem cmp_toksAll : ∀ (xs ys : List PyData), cmpAll xs ys = true → (PyData.eqvAll xs ys = true → keyToksAll xs = keyToksAll ys) ∧ (PyData.eqvAll xs ys = false → ∀ l m, PyProof.Rows.lexLt itemOrd (keyToksAll xs ++ l) (keyToksAll ys ++ m) = PyProof.Rows.lexLt itemOrd (keyToksAll xs) (keyToksAll ys))
  | [], ys, _ => toksAll_eqv [] ys (by simp [alikeAll])
  | x :: xs, [], _ => toksAll_eqv (x :: xs) [] (by simp [alikeAll])
  | x :: xs, y :: ys, h => by
    obtain ⟨h1, h2⟩ := cmp_cons h
    obtain ⟨a1, a2⟩ := cmp_toks x y h1
    rw [eqv_all_cons, toks_all_cons, toks_all_cons]
    cases hx : PyData.eqv x y with
    | true =>
      obtain ⟨b1, b2⟩ := cmp_toksAll xs ys (h2 hx)
      rw [a1 hx, Bool.true_and]
      refine ⟨fun e => by rw [b1 e], fun e l m => ?_⟩
      simp only [List.cons_append, List.append_assoc]
      exact (lex_self (O := itemOrd) _ _ _).trans ((lex_pre _ _ _).trans ((b2 e l m).trans ((lex_pre _ _ _).symm.trans (lex_self (O := itemOrd) _ _ _).symm)))
    | false =>
      rw [Bool.false_and]
      refine ⟨fun e => absurd e Bool.false_ne_true, fun _ l m => ?_⟩
      simp only [List.cons_append, List.append_assoc]
      exact (lex_self (O := itemOrd) _ _ _).trans ((a2 hx _ _).trans ((a2 hx _ _).symm.trans (lex_self (O := itemOrd) _ _ _).symm))
end
theorem lt_yes {x y : PyData} {xs ys : List PyData} (h : cmpb x y = true) (e : PyData.eqv x y = true) : PyProof.Rows.lexLt itemOrd (keyToksAll (x :: xs)) (keyToksAll (y :: ys)) = PyProof.Rows.lexLt itemOrd (keyToksAll xs) (keyToksAll ys) := by
  rw [toks_all_cons, toks_all_cons, (cmp_toks x y h).1 e]
  exact (lex_self (O := itemOrd) _ _ _).trans (lex_pre _ _ _)
theorem lt_no {x y : PyData} {xs ys : List PyData} (h : cmpb x y = true) (e : PyData.eqv x y = false) : PyProof.Rows.lexLt itemOrd (keyToksAll (x :: xs)) (keyToksAll (y :: ys)) = dataLt x y := by
  rw [toks_all_cons, toks_all_cons]
  exact (lex_self (O := itemOrd) _ _ _).trans ((cmp_toks x y h).2 e _ _)
theorem cmp_first : ∀ (xs ys : List PyData), cmpAll xs ys = true →
    firstLt (pairEq xs ys) (fun j => dataLt (xs.getD j .none) (ys.getD j .none)) (decide (xs.length < ys.length)) (List.range (min xs.length ys.length)) = PyProof.Rows.lexLt itemOrd (keyToksAll xs) (keyToksAll ys)
  | [], ys, _ => firstLt_toks [] ys (by simp [alikeAll])
  | x :: xs, [], _ => firstLt_toks (x :: xs) [] (by simp [alikeAll])
  | x :: xs, y :: ys, h => by
    obtain ⟨h1, h2⟩ := cmp_cons h
    have em : min (x :: xs).length (y :: ys).length = min xs.length ys.length + 1 := by
      rw [List.length_cons, List.length_cons]
      omega
    have ed : decide ((x :: xs).length < (y :: ys).length) = decide (xs.length < ys.length) := by
      rw [List.length_cons, List.length_cons]
      exact decide_eq_decide.mpr (by omega)
    rw [em, ed, List.range_succ_eq_map]
    cases hx : PyData.eqv x y with
    | true =>
      rw [firstLt_yes (show pairEq (x :: xs) (y :: ys) 0 = true from hx), firstLt_map, lt_yes h1 hx, ← cmp_first xs ys (h2 hx)]
      rfl
    | false =>
      rw [firstLt_no (show pairEq (x :: xs) (y :: ys) 0 = false from hx), lt_no h1 hx]
      rfl

section
/-- tuple's <: only the first pair that differs is asked for its < -/
theorem tup_lt1 (l b : Addr) (items items2 : Array Value) (n n2 : Nat) (dd dd2 : Option Addr) (sl sl2 : Array (Option Value)) (e r : Nat → Bool) :
    Meets (Builtin.«tuple.__lt__» ⟨[.ref l, .ref b], []⟩)
      (fun A R s => s.heap.get? l = some { cls := .type "tuple", dict := dd, data := .seq items n, slots := sl } ∧ s.heap.get? b = some { cls := .type "tuple", dict := dd2, data := .seq items2 n2, slots := sl2 } ∧
        (∀ j (h1 : j < items.size) (h2 : j < items2.size), EqAt A.in1 s items[j] items2[j] (e j)) ∧ (∀ j (h1 : j < items.size) (h2 : j < items2.size), (∀ i, i < j → e i = true) → e j = false → RcLt A.in1 s items[j] items2[j] (r j)) ∧
        R (.ok (.ret (.bool (firstLt e r (decide (items.size < items2.size)) (List.range (min items.size items2.size)))))) s) :=
  .of_wp fun prog w A R s h => by
    obtain ⟨hp, g, d, tk, os⟩ := s; obtain ⟨hl, hb, he, hr, h⟩ := h
    have f2 := AutoSeq1.sub_tuple_tuple
    have hZ : (items.toList.zip items2.toList).length = min items.size items2.size := by simp
    wp_walk using wpAny_loadPart' hl, wpAny_loadPart' hb, wpAny_forIn_list _ (fun rest b s' => b.1 = none ∧ s' = ⟨hp, g, d, tk, os⟩ ∧ ∃ i, rest = (items.toList.zip items2.toList).drop i ∧ (∀ m, m < i → e m = true) ∧
      R (.ok (.ret (.bool (firstLt e r (decide (items.size < items2.size)) ((List.range (min items.size items2.size)).drop i))))) ⟨hp, g, d, tk, os⟩) _
    case turn =>
      rintro ⟨y, x⟩ rest b s' ⟨hb', rfl, i, hz, hall, hR⟩
      have hlt : i < (items.toList.zip items2.toList).length := by
        rcases Nat.lt_or_ge i (items.toList.zip items2.toList).length with h' | h'
        · exact h'
        · rw [List.drop_of_length_le h'] at hz; cases hz
      have hm : i < min items.size items2.size := hZ ▸ hlt
      have h1 : i < items.size := Nat.lt_of_lt_of_le hm (Nat.min_le_left _ _)
      have h2 : i < items2.size := Nat.lt_of_lt_of_le hm (Nat.min_le_right _ _)
      rw [List.drop_eq_getElem_cons hlt] at hz
      injection hz with hyx hrest
      have hy : y = items[i] := by have := congrArg Prod.fst hyx; simpa using this
      have hx : x = items2[i] := by have := congrArg Prod.snd hyx; simpa using this
      subst hy hx
      have hd : (List.range (min items.size items2.size)).drop i = i :: (List.range (min items.size items2.size)).drop (i + 1) := by simp [List.drop_eq_getElem_cons, hm]
      rw [hd] at hR
      refine wpAny_bind (he i h1 h2 prog w _ _ ?_)
      cases hy : e i with
      | true =>
        rw [firstLt_yes hy] at hR
        wp_walk
        refine ⟨rfl, rfl, i + 1, hrest, fun m hm' => ?_, hR⟩
        rcases Nat.lt_succ_iff_lt_or_eq.mp hm' with z | z
        · exact hall m z
        · rw [z]; exact hy
      | false =>
        rw [firstLt_no hy] at hR
        rw [if_pos (show (!false) = true from rfl)]
        refine wpAny_bind (wpAny_rule ?_)
        refine wpAny_bind (hr i h1 h2 hall hy prog w _ _ ?_)
        wp_walk
        exact ⟨_, rfl, hR⟩
    case fin =>
      rintro ⟨b1, b2⟩ s' ⟨hb', rfl, i, hz, hall, hR⟩
      simp only at hb'
      subst hb'
      have hge : min items.size items2.size ≤ i := by
        rcases Nat.lt_or_ge i (items.toList.zip items2.toList).length with h' | h'
        · rw [List.drop_eq_getElem_cons h'] at hz; cases hz
        · exact hZ ▸ h'
      rw [List.drop_of_length_le (by simpa using hge)] at hR
      wp_walk
      exact ⟨_, rfl, by simpa [Builtin.Tuple.tupleCompareSizes, firstLt] using hR⟩
    case h =>
      exact ⟨rfl, rfl, 0, rfl, fun m hm => absurd hm (Nat.not_lt_zero _), by simpa using h⟩
end
theorem rcLt_tups {A : Around} {s : Shared} {l b : Addr} {items items2 : Array Value} {e r : Nat → Bool} (hl : s.heap.IsTuple l items) (hb : s.heap.IsTuple b items2) (hu : A.units < cLine)
    (he : ∀ j (h1 : j < items.size) (h2 : j < items2.size), EqAt A.in1 s items[j] items2[j] (e j)) (hr : ∀ j (h1 : j < items.size) (h2 : j < items2.size), (∀ i, i < j → e i = true) → e j = false → RcLt A.in1 s items[j] items2[j] (r j)) :
    RcLt A s (.ref l) (.ref b) (firstLt e r (decide (items.size < items2.size)) (List.range (min items.size items2.size))) := fun prog w E Q h => by
  obtain ⟨⟨cls, dd, data, sl⟩, ho, hc, n, hd⟩ := id hl
  obtain ⟨⟨cls2, dd2, data2, sl2⟩, ho2, hc2, n2, hd2⟩ := id hb
  simp only at hc hd hc2 hd2
  subst hc hd hc2 hd2
  exact richCompare_meets_room (op := .Lt) ⟨_, ho, rfl⟩ ⟨_, ho2, rfl⟩ F.slot_tuple_lt F.entry_tuple_lt (F.args_tuple_lt_2 _ _) (tup_lt1 l b items items2 n n2 dd dd2 sl sl2 e r)
    ⟨ho, ho2, he, hr, show Value.bool (firstLt e r (decide (items.size < items2.size)) (List.range (min items.size items2.size))) ≠ Value.notImplemented ∧ Q (.bool (firstLt e r (decide (items.size < items2.size)) (List.range (min items.size items2.size)))) s from ⟨(fun x => nomatch x), h⟩⟩ hu

theorem plain_cons {x : PyData} {xs : List PyData} (h : PyData.plainAll (x :: xs) = true) : x.plain = true ∧ PyData.plainAll xs = true := by simpa [PyData.plainAll] using h
mutual
theorem rcLt_cmp : ∀ (da db : PyData) (A : Around) (s : Shared) (a b : Value) (as bs : List Addr), Reads s.heap a da as → Reads s.heap b db bs → da.plain = true → db.plain = true → cmpb da db = true → A.units + min da.depth db.depth < cLine → RcLt A s a b (dataLt da db)
  | .none, db, _, _, _, _, _, _, _, _, _, _, h, _ => absurd h (by cases db <;> simp [cmpb])
  | .list _, db, _, _, _, _, _, _, _, _, _, _, h, _ => absurd h (by cases db <;> simp [cmpb])
  | .dict _, db, _, _, _, _, _, _, _, _, _, _, h, _ => absurd h (by cases db <;> simp [cmpb])
  | .bool x, db, A, s, a, b, as, bs, ra, rb, _, _, h, hu => by
    cases db with
    | bool y => exact rcLt_alike (.bool x) (.bool y) A s a b as bs ra rb (by simp [alike]) (by simp) hu
    | _ => exact absurd h (by simp [cmpb])
  | .int x, db, A, s, a, b, as, bs, ra, rb, _, _, h, hu => by
    cases db with
    | int y => exact rcLt_alike (.int x) (.int y) A s a b as bs ra rb (by simp [alike]) (by simp) hu
    | _ => exact absurd h (by simp [cmpb])
  | .str x, db, A, s, a, b, as, bs, ra, rb, _, _, h, hu => by
    cases db with
    | str y => exact rcLt_alike (.str x) (.str y) A s a b as bs ra rb (by simp [alike]) (by simp) hu
    | _ => exact absurd h (by simp [cmpb])
  | .tuple xs, db, A, s, a, b, as, bs, ra, rb, pa, pb, h, hu => by
    cases db with
    | tuple ys =>
      have hal : cmpAll xs ys = true := by simpa [cmpb] using h
      have pa' : PyData.plainAll xs = true := by simpa [PyData.plain] using pa
      have pb' : PyData.plainAll ys = true := by simpa [PyData.plain] using pb
      cases ra with
      | @tuple l o vs n _ as₁ h1 h2 h3 h4 =>
        cases rb with
        | @tuple l' o' vs' n' _ bs₁ k1 k2 k3 k4 =>
          have n1 : vs.size = xs.length := by simpa using ReadsAll.length _ _ _ h4
          have n2 : vs'.size = ys.length := by simpa using ReadsAll.length _ _ _ k4
          rw [dataLt_tuple, ← cmp_first xs ys hal, ← n1, ← n2]
          refine rcLt_tups ⟨_, h1, h2, _, h3⟩ ⟨_, k1, k2, _, k3⟩ (room_here hu) (fun j j1 j2 => ?_) fun j j1 j2 hi hj => ?_
          · have := eqAt_plainAll xs ys A.in1 s vs.toList vs'.toList _ _ h4 k4 pa' pb' (room_in hu) j (by simpa using j1) (by simpa using j2)
            simpa using this
          · have := rcLt_cmpAll xs ys A.in1 s vs.toList vs'.toList _ _ h4 k4 pa' pb' hal (room_in hu) j (by simpa using j1) (by simpa using j2) hi hj
            simpa using this
    | _ => exact absurd h (by simp [cmpb])
theorem rcLt_cmpAll : ∀ (xs ys : List PyData) (A : Around) (s : Shared) (vs ws : List Value) (as bs : List Addr), ReadsAll s.heap vs xs as → ReadsAll s.heap ws ys bs → PyData.plainAll xs = true → PyData.plainAll ys = true → cmpAll xs ys = true →
    A.units + min (PyData.depthAll xs) (PyData.depthAll ys) < cLine → ∀ j (h1 : j < vs.length) (h2 : j < ws.length), (∀ i, i < j → pairEq xs ys i = true) → pairEq xs ys j = false → RcLt A s vs[j] ws[j] (dataLt (xs.getD j .none) (ys.getD j .none))
  | [], _, _, _, _, _, _, _, ra, _, _, _, _, _, j, h1, _, _, _ => by cases ra; exact absurd h1 (Nat.not_lt_zero _)
  | _ :: _, [], _, _, _, _, _, _, _, rb, _, _, _, _, j, _, h2, _, _ => by cases rb; exact absurd h2 (Nat.not_lt_zero _)
  | x :: xs, y :: ys, A, s, _, _, _, _, ra, rb, pa, pb, h, hu, j, h1, h2, hi, hj => by
    obtain ⟨c1, c2⟩ := cmp_cons h
    cases ra with
    | cons r rs =>
      cases rb with
      | cons r' rs' =>
        cases j with
        | zero => exact rcLt_cmp x y A s _ _ _ _ r r' (plain_cons pa).1 (plain_cons pb).1 c1 (room_head hu)
        | succ j => exact rcLt_cmpAll xs ys A s _ _ _ _ rs rs' (plain_cons pa).2 (plain_cons pb).2 (c2 (hi 0 (Nat.succ_pos _))) (room_tail hu) j (Nat.lt_of_succ_lt_succ h1) (Nat.lt_of_succ_lt_succ h2) (fun i hlt => hi (i + 1) (Nat.succ_lt_succ hlt)) hj
end
section
variable {prog : Program} {w : World} {A : Around} {E : Value → Shared → Prop} {s : Shared}
theorem oneLt_cmp {f : Bool} {da db : PyData} {a b : Value} {as bs : List Addr} {Q : Bool → Shared → Prop} (hf : f = true → ∀ xs, da ≠ .tuple xs) (ra : Reads s.heap a da as) (rb : Reads s.heap b db bs) (pa : da.plain = true) (pb : db.plain = true) (h : cmpb da db = true)
    (hu : A.units + min da.depth db.depth < cLine) (hq : Q (dataLt da db) s) : wpAny (model prog w) A (oneLt' f a b) Q E s := by
  cases f with
  | false =>
    rw [oneLt'_eq]
    simp only [Bool.false_eq_true, if_false]
    exact wpAny_bind (rcLt_cmp da db A s a b as bs ra rb pa pb h hu prog w E _ (wpAny_truthy_bool hq))
  | true =>
    have ha : alike da db = true ∧ da ≠ .none := by
      cases da with
      | tuple xs => exact absurd rfl (hf rfl xs)
      | _ => cases db <;> (simp [cmpb] at h) <;> exact ⟨by simp [alike], by simp⟩
    exact oneLt_alike hf ra rb ha.1 ha.2 hu hq
theorem katLex_cmp {b fin : Bool} {Q : Bool → Shared → Prop} : ∀ (xs ys : List PyData) (i : Nat) (vs ws : List Value) (as bs : List Addr), ReadsAll s.heap vs xs as → ReadsAll s.heap ws ys bs → PyData.plainAll xs = true → PyData.plainAll ys = true → cmpAll xs ys = true →
    A.units + min (PyData.depthAll xs) (PyData.depthAll ys) < cLine → (b = true → i = 0 → ∀ x r t, xs = x :: r → x ≠ .tuple t) → fin = decide (xs.length < ys.length) → Q (PyProof.Rows.lexLt itemOrd (keyToksAll xs) (keyToksAll ys)) s → KatLex prog w A b fin Q (vs.zip ws) i s
  | [], ys, i, vs, ws, as, bs, ra, rb, _, _, _, hu, hb, hf, hq => katLex_alike [] ys i vs ws as bs ra rb (by simp [alikeAll]) hu hb hf hq
  | x :: xs, [], i, vs, ws, as, bs, ra, rb, _, _, _, hu, hb, hf, hq => katLex_alike (x :: xs) [] i vs ws as bs ra rb (by simp [alikeAll]) hu hb hf hq
  | x :: xs, y :: ys, i, _, _, _, _, ra, rb, pa, pb, h, hu, hb, hf, hq => by
    obtain ⟨h1, h2⟩ := cmp_cons h
    have hf' : fin = decide (xs.length < ys.length) := by
      rw [hf]
      simp only [List.length_cons, Nat.add_lt_add_iff_right]
    cases ra with
    | cons r rs =>
      cases rb with
      | cons r' rs' =>
        rw [List.zip_cons_cons]
        refine kat_cons (eqAt_plain x y A s _ _ _ _ r r' (plain_cons pa).1 (plain_cons pb).1 (room_head hu) prog w _ _ ?_)
        cases hx : PyData.eqv x y with
        | true =>
          rw [lt_yes h1 hx] at hq
          exact kat_yes (katLex_cmp xs ys (i + 1) _ _ _ _ rs rs' (plain_cons pa).2 (plain_cons pb).2 (h2 hx) (room_tail hu) (fun _ hi => absurd hi (Nat.succ_ne_zero i)) hf' hq)
        | false =>
          rw [lt_no h1 hx] at hq
          refine kat_no (oneLt_cmp (fun hbi t => ?_) r r' (plain_cons pa).1 (plain_cons pb).1 h1 (room_head hu) hq)
          rw [Bool.and_eq_true] at hbi
          exact hb hbi.1 (by simpa using hbi.2) x xs t rfl
def AllCmp (ds : List PyData) : Prop := ∀ d, d ∈ ds → ∀ d', d' ∈ ds → cmpb d d' = true
theorem kind_some {h : Heap} {ds : List PyData} (hp : ∀ d ∈ ds, d.plain = true) {v : Value} {d : PyData} {as : List Addr} (hd : d ∈ ds) (r : Reads h v d as) : (dataKind h ds).keyOf v = some (keyToks d) := by
  have q : ∃ d, d ∈ ds ∧ ∃ as, Reads h v d as := ⟨d, hd, as, r⟩
  have e : (dataKind h ds).keyOf v = some (keyToks q.choose) := by
    show (open Classical in if q : ∃ d, d ∈ ds ∧ ∃ as, Reads h v d as then some (keyToks q.choose) else none) = _
    rw [dif_pos q]
  obtain ⟨h1, as', h2⟩ := q.choose_spec
  rw [e, plain_unique _ _ _ _ _ (hp _ h1) h2 r]
theorem type_cmp {x y : PyData} (h : cmpb x y = true) : dataType x = dataType y := by
  cases x <;> cases y <;> first | rfl | exact absurd h (by simp [cmpb])
theorem sorts_cmp {vs : List Value} {ds : List PyData} (e : EachIs (fun v d => ∃ as, Reads s.heap v d as) vs ds) (hal : AllCmp ds) (hp : ∀ d ∈ ds, d.plain = true) (ht : ∀ d, d ∈ ds → ∃ x r, d = .tuple (x :: r)) (hu : ∀ d, d ∈ ds → A.units + d.depth < cLine) : SortsAt prog w A s (dataKind s.heap ds) vs := by
  have room : ∀ {d d' : PyData}, d ∈ ds → A.units + min d.depth d'.depth < cLine := fun {d d'} hd => Nat.lt_of_le_of_lt (Nat.add_le_add_left (Nat.min_le_left _ _) _) (hu d hd)
  refine ⟨fun v hv => ?_, ?_⟩
  · obtain ⟨d, hd, as, r⟩ := e.left v hv
    exact ⟨_, kind_some hp hd r⟩
  cases ds with
  | nil =>
    cases e
    exact ⟨general', fun E x y a b Q ha _ _ => (by
      obtain ⟨d, _, hd, _⟩ := dataKind_inv ha
      exact absurd hd (by simp)), fun h2 => absurd h2 (by simp)⟩
  | cons d₀ ds₀ =>
    obtain ⟨x₀, r₀, e₀⟩ := ht d₀ (List.mem_cons_self ..)
    have hfirst : ∀ x r, PyData.tuple (x :: r) ∈ d₀ :: ds₀ → cmpb x x₀ = true := by
      intro x r hm
      have q := hal _ hm d₀ (List.mem_cons_self ..)
      rw [e₀] at q
      exact (cmp_cons (by simpa [cmpb] using q)).1
    refine ⟨tuples' (dataType x₀ != Value.type "tuple"), ?_, fun h2 E Q hq => ?_⟩
    · intro E x y a b Q ha hb hq
      obtain ⟨d, as, hd, ra, rfl⟩ := dataKind_inv ha
      obtain ⟨d', as', hd', rb, rfl⟩ := dataKind_inv hb
      have hdd := hal d hd d' hd'
      have hroom := room (d' := d') hd
      have pd := hp d hd
      have pd' := hp d' hd'
      obtain ⟨x1, r1, rfl⟩ := ht d hd
      obtain ⟨x2, r2, rfl⟩ := ht d' hd'
      have hq' : Q (dataLt (.tuple (x1 :: r1)) (.tuple (x2 :: r2))) s := hq
      rw [dataLt_tuple] at hq'
      cases ra with
      | @tuple l o xs n _ _ h1 h2 h3 h4 =>
        cases rb with
        | @tuple l' o' xs' n' _ _ k1 k2 k3 k4 =>
          have n1 : xs.size = (x1 :: r1).length := by simpa using SeqAt.ReadsAll.length _ _ _ h4
          have n2 : xs'.size = (x2 :: r2).length := by simpa using SeqAt.ReadsAll.length _ _ _ k4
          refine kat_lt h1 h3 k1 k3 (katLex_cmp (x1 :: r1) (x2 :: r2) 0 _ _ _ _ h4 k4 (by simpa [PyData.plain] using pd) (by simpa [PyData.plain] using pd') (by simpa [cmpb] using hdd) (by have q := SeqAt.room_in hroom; omega) (fun hb _ x r t ex => ?_) (by rw [n1, n2]) hq')
          obtain ⟨rfl, rfl⟩ := List.cons.inj ex
          have q := type_cmp (hfirst _ _ hd)
          rw [← q] at hb
          exact dataType_tuple hb t
    · obtain ⟨fs, t1, t2, t3⟩ := each_katTups e ht
      refine kat_kind (T := dataType x₀) t1 (by omega) (fun f hf => ?_) (beq_self_eq_true _) hq
      obtain ⟨x, r, as, m1, m2⟩ := t3 f hf
      rw [← type_cmp (hfirst x r m1)]
      exact looks_reads m2
theorem sorted_cmp {β : Type} {R : Value → β → Prop} {enc : β → PyData} {l : Addr} {vs : List Value} {bs : List β} {Q : Value → Shared → Prop} (hl : s.heap.IsList l vs.toArray) (e : EachIs R vs bs) (er : EachIs (fun v b => ∃ as, Reads s.heap v (enc b) as) vs bs) (hal : AllCmp (bs.map enc)) (hp : ∀ b ∈ bs, (enc b).plain = true) (ht : ∀ b ∈ bs, ∃ x r, enc b = .tuple (x :: r)) (hL : bs.length ≤ sizeLine)
    (hu : ∀ b, b ∈ bs → A.units + 2 + (enc b).depth < cLine) (h : ∀ out, out.length = bs.length → EachIs R out (bs.mergeSort (dataLe false enc)) → Q (.ref (s.heap.objs.size + 1)) { s with heap := sortedAll s.heap vs (List.toArray out) }) :
    wpAny (model prog w) A (call (.builtin "sorted") [.ref l]) Q E s := by
  have hp' : ∀ d ∈ bs.map enc, d.plain = true := fun d hd => by
    obtain ⟨b, hb, rfl⟩ := List.mem_map.mp hd
    exact hp b hb
  have ht' : ∀ d ∈ bs.map enc, ∃ x r, d = .tuple (x :: r) := fun d hd => by
    obtain ⟨b, hb, rfl⟩ := List.mem_map.mp hd
    exact ht b hb
  have er' : EachIs (fun v b => ∃ as, Reads (sortingHeap (copyHeap s.heap vs) (s.heap.objs.size + 1) vs) v (enc b) as) vs bs := er.mono fun _ _ ⟨as, r⟩ => ⟨as, PyProof.Rows.Reads.keeps (fun _ _ => sorting_copy_old) r⟩
  have em := each_map (R := fun v d => ∃ as, Reads (sortingHeap (copyHeap s.heap vs) (s.heap.objs.size + 1) vs) v d as) enc er'
  refine sorted_vals hl (sorts_cmp (s := { s with heap := sortingHeap (copyHeap s.heap vs) (s.heap.objs.size + 1) vs }) em hal hp' ht' (bound_map hu)) (by rw [e.length]; exact hL) ?_
  refine h _ (by rw [sortVals_length false rfl]; exact e.length) ?_
  exact sortVals_each (κ := dataKind (sortingHeap (copyHeap s.heap vs) (s.heap.objs.size + 1) vs) (bs.map enc)) (fun b => keyToks (enc b)) e
    (each_of_map enc ((each_mem em).mono fun _ _ ⟨⟨_, r⟩, hd⟩ => kind_some hp' hd r))
end
end PySem.GKC

/-! ### sorted over data: rows that need only be alike up to the first place where they differ -/
namespace GK
open PySem PySem.Spec PyProof.Rows L2
mutual
theorem pn_plain : ∀ d : D, pnD d = true → (toP d).plain = true
  | .non, _ => by simp [toP, PyData.plain]
  | .int i, _ => by simp [toP, PyData.plain]
  | .str i, _ => by simp [toP, PyData.plain]
  | .tup xs, h => by simp only [toP, PyData.plain]; exact pns_plain xs (by simpa [pnD] using h)
  | .lst xs, h => by simp only [toP, PyData.plain]; exact pns_plain xs (by simpa [pnD] using h)
  | .bl _, h => by simp [pnD] at h
  | .raw _, h => by simp [pnD] at h
  | .kp _, h => by simp [pnD] at h
  | .dK _, h => by simp [pnD] at h
  | .dT _, h => by simp [pnD] at h
  | .obj _ _, h => by simp [pnD] at h
theorem pns_plain : ∀ ds : List D, pnDs ds = true → PyData.plainAll (toPs ds) = true
  | [], _ => by simp [toPs, PyData.plainAll]
  | d :: ds, h => by
    rw [pnDs, Bool.and_eq_true] at h
    simp only [toPs, PyData.plainAll, Bool.and_eq_true]
    exact ⟨pn_plain d h.1, pns_plain ds h.2⟩
end
abbrev cmpD (a b : D) : Bool := PySem.GKC.cmpb (toP a) (toP b)
def rSortC (K : PySem.W.Frag) : List V → Hp → VK → Prop := fun vs H Q => ∃ (a : Addr) (xs : List V) (ds : List D) (P : V → D → Prop), vs = [.ref a] ∧ SqL K H a xs ∧ Pr P xs ds ∧ (∀ v d, P v d → d ∈ ds → Dp K H v (toP d)) ∧
  (∀ d ∈ ds, ∀ e ∈ ds, cmpD d e = true) ∧ (∀ d ∈ ds, pnD d = true) ∧ (∀ d ∈ ds, ∃ x r, d = .tup (x :: r)) ∧ (∀ d ∈ ds, (toP d).depth ≤ 64) ∧ ∀ ys p, Pr P ys (ds.mergeSort leD) → H p = none → Q (.ref p) (upd H p (.lst ys))
theorem cr_sortC {X : Cx} (hu : X.A.units + 67 < cLine) : CallR X (.builtin "sorted") (rSortC X.K) := by
  intro pins s σ H vs us Q I r ⟨a, xs, ds, P, e, hs, hp, hd, hc, hpn, htu, hde, q⟩
  subst e
  obtain ⟨its, rv, hl, hz⟩ := I.list hs
  rw [Vals.ref1 r]
  have ev := pr_each rv hp
  have er : PySem.W.EachIs (fun u d => ∃ as, Reads s.heap u (toP d) as) its ds := (each_memD ev).mono fun u d ⟨⟨v, r, p⟩, hm⟩ => Dp.reads I (toP d) v u (hd v d p hm) r
  have lz : ds.length ≤ sizeLine := by rw [← ev.length, ← rv.length]; exact hz
  refine PySem.GKC.sorted_cmp (enc := toP) hl.isList ev er (fun d hd d' hd' => ?_) (fun d hd => pn_plain d (hpn d hd)) (fun d hd => ?_) lz (fun d hm => by have := hde d hm; omega) fun out hlen eo => ?_
  · obtain ⟨x, hx, rfl⟩ := List.mem_map.mp hd
    obtain ⟨y, hy, rfl⟩ := List.mem_map.mp hd'
    exact hc x hx y hy
  · obtain ⟨x, r, rfl⟩ := htu d hd
    exact ⟨toP x, toPs r, by simp only [toP, toPs]⟩
  obtain ⟨ys, h1, h2⟩ := each_pr eo
  obtain ⟨ep, he'⟩ := PyProof.Rows.sortedAll_at s.heap its out.toArray
  exact ⟨.ref _, upd H (s.heap.objs.size + 1) (.lst ys), I.laid (t' := s.toks) (fun _ _ => PyProof.Rows.sortedAll_old) (Nat.le_succ _) ⟨by rw [h1.length, hlen]; exact lz, out, ep, h1, he'⟩, rfl, q _ _ h2 (I.hok.fresh (Nat.le_succ _))⟩
def gSortC : List D → (D → Prop) → Prop
  | [.lst ds], R => ((∀ d ∈ ds, okD 64 d = true) ∧ (∀ d ∈ ds, ∀ e ∈ ds, cmpD d e = true) ∧ (∀ d ∈ ds, pnD d = true) ∧ ∀ d ∈ ds, ∃ x r, d = .tup (x :: r)) ∧ R (.lst (ds.mergeSort leD))
  | _, _ => False
theorem opN_sortC {K : PySem.W.Frag} {m1 : Mode} (h1 : m1.flat1 = true) : OpN K (rSortC K) [m1] (.own 1) gSortC := by
  intro B F H vs ds fp R Q w hv hf hg k
  unfold gSortC at hg
  split at hg
  · obtain ⟨v, rfl, h⟩ := hv.one
    obtain ⟨a, xs, rfl, ha, r⟩ := h.lstRL h1 w
    exact ⟨a, xs, _, GK.R K F, rfl, SqL.of ha, rl_pr r, fun v d r hm => GK.R.dp (hg.1.1 d hm) (r.mono w.sub), hg.1.2.1, hg.1.2.2.1, hg.1.2.2.2, fun d hm => (okD_can (hg.1.1 d hm)).2, fun ys p hy hz => k.newLst0 w (pr_rl hy) hg.2 hz⟩
  · exact hg.elim
section
variable {X : Cx} {B : List Addr} {e : Expr} {f : FE} {m1 : Mode} {p pos : Pos}
theorem de_sortedM (hu : X.A.units + 67 < cLine) (hz : X.mg "sorted" = none) (ha : DE X B e m1 f) (hm : m1.flat1 = true := by rfl) (hg : Gl X "sorted" := by rfl) (he : starEach [e] X.env = (false, eval e X.env) :: starEach [] X.env := by rfl) (hpl : (backTo pos (starEach [] X.env)).any (·.1) = false := by rfl) :
    DE X B (.Call (.Name "sorted" p) [e] [] pos) (.own 1) (fArgs gSortC (fCons f fNil)) := de_B (cr_sortC hu) (opN_sortC hm) hg hz (by decide +kernel) (da_cons ha da_nil he) (by decide) (by decide) he hpl
end
/-! the order -/
def ltD (a b : D) : Bool := PySem.W.dataLt (toP a) (toP b)
theorem leD_ltD (a b : D) : leD a b = !ltD b a := rfl
theorem leD_anti {a b : D} (hc : cmpD a b = true) (pa : pnD a = true) (pb : pnD b = true) (h1 : leD a b = true) (h2 : leD b a = true) : a = b := by
  rw [leD_ltD] at h1 h2
  have e1 : ltD b a = false := by simpa using h1
  have e2 : ltD a b = false := by simpa using h2
  have et : PySem.W.keyToks (toP a) = PySem.W.keyToks (toP b) := PyProof.Rows.lex_total (O := itemOrd) _ _ e2 e1
  refine (eqv_pn a b pa pb).mp ?_
  cases q : PyData.eqv (toP a) (toP b) with
  | true => rfl
  | false =>
    have z := (PySem.GKC.cmp_toks _ _ hc).2 q [.inl 0] [.inl 1]
    rw [et, PySem.W.lex_pre, PyProof.Rows.lex_irrefl] at z
    exact absurd z (by decide +kernel)
theorem pair_lt (n m : Int) (a b : D) (hc : n = m → cmpD b a = true) (pa : pnD a = true) (pb : pnD b = true) : leD (.tup [.int n, a]) (.tup [.int m, b]) = true ↔ n < m ∨ (n = m ∧ leD a b = true) := by
  have key : ∀ (n m : Int) (a b : D), (n = m → cmpD a b = true) → pnD a = true → pnD b = true → ltD (.tup [.int n, a]) (.tup [.int m, b]) = (if n = m then ltD a b else decide (n < m)) := fun n m a b hc pa pb => by
    unfold ltD
    simp only [toP, toPs]
    rw [PySem.W.dataLt_tuple]
    by_cases e : n = m
    · subst e
      rw [if_pos rfl, PySem.GKC.lt_yes (by simp [PySem.GKC.cmpb]) (by simp [PyData.eqv])]
      cases q : PyData.eqv (toP a) (toP b) with
      | false => rw [PySem.GKC.lt_no (hc rfl) q]
      | true =>
        rw [PySem.GKC.lt_yes (hc rfl) q, PyProof.Rows.lex_irrefl]
        have := (eqv_pn a b pa pb).mp q
        rw [this]
        exact (PyProof.Rows.lex_irrefl (O := itemOrd) _).symm
    · rw [if_neg e, PySem.GKC.lt_no (by simp [PySem.GKC.cmpb]) (by simpa [PyData.eqv] using e), PySem.W.dataLt_int]
  rw [leD_ltD, key m n b a (fun e => hc e.symm) pb pa]
  by_cases e : n = m
  · subst e
    rw [if_pos rfl, leD_ltD]
    simp
  · rw [if_neg (fun z => e z.symm)]
    constructor
    · intro h
      left
      have : decide (m < n) = false := by simpa using h
      have := of_decide_eq_false this
      omega
    · rintro (h | h)
      · rw [decide_eq_false (by omega)]; rfl
      · exact absurd h.1 e
end GK

/-! ### list(x), x of a class with its own __iter__ (an iterator over a list that x holds) and __len__ -/
namespace GK
open PySem PySem.Spec PyProof.Rows L2
section
variable {X : Cx} {pins : List (Addr × Obj)} {σ : L2.St} {A1 : Around} {q it l : Addr} {zs : List V} {Rs : Result → Shared → Prop} {Fin : Hp → Prop}
theorem vals_get : ∀ {vs : List V} {us : List Value}, Vals vs us → ∀ (i : Nat) (h : i < vs.length) (h2 : i < us.length), RelV vs[i] us[i]
  | _, _, .cons r t, 0, _, _ => r
  | _, _, .cons r t, i + 1, h, h2 => vals_get t i (by simpa using h) (by simpa using h2)
theorem sqL_upd {K : PySem.W.Frag} {H : Hp} {a b : Addr} {o : HO} {xs : List V} (h : SqL K H a xs) (n : a ≠ b) : SqL K (upd H b o) a xs := by
  rcases h with h | h
  · left
    rcases h with h | ⟨u, h⟩
    · exact .inl (by rw [upd_ne n]; exact h)
    · exact .inr ⟨u, by rw [upd_ne n]; exact h⟩
  · exact .inr h
theorem list_loop (hh : A1.in1.handled = none) (hzl : zs.length ≤ sizeLine) (hlq : l ≠ q) (hiq : it ≠ q)
    (hdone : ∀ H s, Inv X pins σ H s → Fin H → Rs (.ok (.ret .none)) s) :
    ∀ (n i : Nat) (H : Hp) (s : Shared), n + i = zs.length → Inv X pins σ H s → H q = some (.lst (zs.take i)) → SqL X.K H l zs → FpOk X pins H it → s.heap.IsListIter it l i → Fin (upd H q (.lst zs)) →
      codeAny (model X.prog X.w) A1 (.builtin "list.extend.loop" ⟨[.ref q, .ref it, .none], []⟩) Rs s := by
  intro n
  induction n with
  | zero =>
    intro i H s hn I hq hs hf hit hF
    obtain ⟨its, rv, hl, hz⟩ := I.list hs
    have hi : i = its.length := by rw [← rv.length]; omega
    refine codeAny_builtin PySem.F.entry_extend_loop ?_
    rw [Around.under_plainId PySem.F.plain_extend_loop _]
    show wpAny _ A1.in1 (pyNext (.ref it) >>= _) _ _ s
    refine wpAny_bind (wpAny_pyNext_list_end hh hit hl.isList (by simp [hi]) fun h' ex => ?_)
    have I' := I.turnedL (ch := [it]) (t' := s.toks) (fun b o hb e => ex b o (by simpa using hb) e) (fun b hb => by rw [List.mem_singleton.mp hb]; exact hf)
    refine wpAny_pure (hdone H _ I' ?_)
    have e : upd H q (.lst zs) = H := by
      funext b
      by_cases hb : b = q
      · rw [hb, upd_same, hq, List.take_of_length_le (by omega)]
      · rw [upd_ne hb]
    rw [e] at hF
    exact hF
  | succ n ih =>
    intro i H s hn I hq hs hf hit hF
    obtain ⟨its, rv, hl, hz⟩ := I.list hs
    have hi : i < its.length := by rw [← rv.length]; omega
    have hi2 : i < zs.length := by omega
    have ru : RelV zs[i] its[i] := vals_get rv i hi2 hi
    refine codeAny_builtin PySem.F.entry_extend_loop ?_
    rw [Around.under_plainId PySem.F.plain_extend_loop _]
    show wpAny _ A1.in1 (pyNext (.ref it) >>= _) _ _ s
    refine wpAny_bind (wpAny_pyNext_list_item hit hl.isList (x := its[i]) (by simp [hi]) fun h' hit' sb => ?_)
    have I' := I.turnedL (ch := [it]) (t' := s.toks) (fun b o hb e => by rw [sb.2 b (by simpa using hb)]; exact e) (fun b hb => by rw [List.mem_singleton.mp hb]; exact hf)
    show wpAny _ A1.in1 (updateSeq q (·.push its[i]) >>= _) _ _ _
    obtain ⟨z, its2, k, r2, hl2, e⟩ := I'.lstM hq
    have hz2 : (zs.take i).length ≤ sizeLine := z
    refine wpAny_bind (wpAny_updateSeq e rfl (wpAny_pure ⟨plainId_quiet PySem.F.plain_extend_loop _, ?_⟩) (by rw [List.size_toArray]; omega) (by show (its2.toArray.push its[i]).size ≤ sizeLine + 1; rw [Array.size_push, List.size_toArray]; omega))
    have et : zs.take i ++ [zs[i]] = zs.take (i + 1) := (List.take_succ_eq_append_getElem hi2).symm
    have I2 := I'.lset (f := (·.push its[i])) (its' := its2 ++ [its[i]]) (ys := zs.take i ++ [zs[i]]) (t' := s.toks) hq e (by first | simp | rfl) (r2.append (.cons ru .nil)) (by rw [et, List.length_take]; omega)
    rw [et] at I2
    refine ih (i + 1) _ _ (by omega) I2 upd_same (sqL_upd hs hlq) ⟨by rw [upd_ne hiq]; exact hf.1, hf.2⟩ ?_ (by rw [upd_upd]; exact hF)
    obtain ⟨o, ho, hr⟩ := hit'
    exact ⟨o, (Heap.get?_update_ne _ _ _ _ hiq).trans ho, hr⟩
/-- the callee runs, from a place below, whatever stands around it -/
theorem run_subE {k : Nat} {f : Addr} {fd : FuncData} {ps : List Str} {sp : Sp} {H : Hp} {s : Shared} {Q : VK} {us : List Value} {vs : List V} {EE : Value → Shared → Prop} (sb : L2.Sub X k A1) (F : FnOk X.prog X.w X.K X.mg X.base CX0 k f fd ps sp) (hb : Binds X.K fd ps [])
    (I : Inv X pins σ H s) (r : Vals vs us) (h : sp vs H Q fun _ _ _ => False) : wpAny (model X.prog X.w) A1 (call (.ref f) us) (EP X pins σ Q) EE s := by
  have hl : us.length = ps.length := by rw [← r.length]; exact F.len _ _ _ _ h
  have b := hb s us I.kIn (by rw [List.append_nil]; exact hl)
  rw [List.append_nil] at b
  refine wpAny_call (codeAny_mono (F.run A1 X.stack s H ⟨us, []⟩ us vs Q _ sb.room (Sub0.env sb I) b r h) fun r s' hq => ?_)
  cases r with
  | error e => exact (show False from hq).elim
  | ok fl =>
    cases fl with
    | ret u => exact I.after hq
    | next => exact False.elim hq
    | brk => exact False.elim hq
    | cont => exact False.elim hq
/-- list(x) -/
def rListO (K : PySem.W.Frag) (C : Addr) (fld : Str) (sp : Sp) : List V → Hp → VK → Prop := fun xs H Q => ∃ a dx fs l zs, xs = [.ref a] ∧ H a = some (.ins C dx fs) ∧ fs.lookup fld = some (.ref l) ∧ SqL K H l zs ∧
  ∀ q, H q = none → sp [.ref a] (upd H q (.lst [])) (fun v H2 => (∃ n : Int, v = .int n ∧ 0 ≤ n ∧ n ≤ 16777216) ∧ H2 q = some (.lst []) ∧ SqL K H2 l zs ∧ Q (.ref q) (upd H2 q (.lst zs))) fun _ _ _ => False
theorem call_listO {C fi fl : Addr} {ki kl : Nat} {fdI fdL : FuncData} {psI psL : List Str} {fld : Str} {sp : Sp} (hc : X.calm = true) (FI : FnN X.prog X.w X.K X.mg X.base ki fi fdI psI (spItL X.K C fld)) (bI : Binds X.K fdI psI [])
    (hsI : PySem.W.findIn X.K (.ref C) "__iter__" = some (some (.ref fi))) (hfI : PySem.W.isFn X.K (.ref fi) = true)
    (FL : FnOk X.prog X.w X.K X.mg X.base CX0 kl fl fdL psL sp) (bL : Binds X.K fdL psL []) (hsL : PySem.W.findIn X.K (.ref C) "__len__" = some (some (.ref fl))) (hfL : PySem.W.isFn X.K (.ref fl) = true)
    (hrI : Room (ki + 2) X.A) (hrL : Room (kl + 3) X.A) : CallR X (.type "list") (rListO X.K C fld sp) := by
  intro pins s σ H xs us Q I rv ⟨a, dx, fs, l, zs, e, ha, hlk, hs, hq⟩
  subst e
  obtain ⟨u, rfl, ru⟩ := rv.one
  cases ru
  have sbI : Sub X ki X.A.in1.in1 := Sub.in1 (Sub.in1 (⟨hrI, rfl⟩ : Sub X (ki + 2) X.A))
  have sbL : Sub X kl X.A.in1.in1.in1 := Sub.in1 (Sub.in1 (Sub.in1 (⟨hrL, rfl⟩ : Sub X (kl + 3) X.A)))
  refine callType_codes (Q₁ := fun obj s₁ => obj = .ref s.heap.objs.size ∧ s₁ = { s with heap := s.heap.push { cls := .type "list", data := .seq #[] } }) PySem.F.called_list (PySem.F.typeCall_list_1 _) PySem.F.entry_list_init
    (code_list_new _ ⟨rfl, rfl⟩) fun obj s₁ h₁ => ?_
  obtain ⟨rfl, rfl⟩ := h₁
  have hS : (s.heap.push { cls := .type "list", data := .seq #[] }).get? s.heap.objs.size = some { cls := .type "list", data := .seq #[] } := Heap.get?_push_size _ rfl
  refine ⟨⟨_, hS, rfl⟩, PySem.F.args_list_init_2 _ _, ?_⟩
  have fr : H s.heap.objs.size = none := I.hok.fresh (Nat.le_refl _)
  have hzl : zs.length ≤ sizeLine := (I.list hs).choose_spec.2.2
  have hlt : l < s.heap.objs.size := (I.list hs).choose_spec.2.1.lt
  have hq0 := hq _ fr
  have I1 : Inv X pins σ (upd H s.heap.objs.size (.lst [])) { s with heap := s.heap.push { cls := .type "list", data := .seq #[] } } := I.lnew (its := []) (t' := s.toks) .nil (Nat.zero_le _)
  show wpAny _ _ (do let old ← Builtin.List.listItems (.ref s.heap.objs.size); Builtin.List.listUpdate (.ref s.heap.objs.size) (fun _ => #[]); letGo old.toList.reverse; Builtin.List.listExtendWith (.ref s.heap.objs.size) (.ref a) .none) _ _ _
  refine wpAny_bind ?_
  unfold Builtin.List.listItems
  refine wpAny_bind (wpAny_seqItems hS rfl (wpAny_pure ?_))
  show wpAny _ _ (updateSeq s.heap.objs.size (fun _ => #[]) >>= fun _ => letGo (#[] : Array Value).toList.reverse >>= fun _ => Builtin.List.listExtendWith (.ref s.heap.objs.size) (.ref a) .none) _ _ _
  refine wpAny_bind (wpAny_updateSeq hS rfl ?_)
  have I2 := I1.lset (f := fun _ => #[]) (its := []) (its' := []) (ys := []) (t' := s.toks) upd_same hS rfl .nil (Nat.zero_le _)
  rw [upd_upd] at I2
  refine wpAny_bind (wpAny_letGo ?_)
  have ha2 : upd H s.heap.objs.size (.lst []) a = some (.ins C dx fs) := by rw [upd_ne (ne_of_none ha fr)]; exact ha
  have hqq : upd H s.heap.objs.size (.lst []) s.heap.objs.size = some (.lst []) := upd_same
  have hs2 : SqL X.K (upd H s.heap.objs.size (.lst [])) l zs := sqL_upd hs (Nat.ne_of_lt hlt)
  have hlq : l ≠ s.heap.objs.size := Nat.ne_of_lt hlt
  have hqs : s.heap.objs.size < (({ heap := ((s.heap.push { cls := .type "list", data := .seq #[] }).update s.heap.objs.size (Obj.mapSeq fun _ => #[])), gens := s.gens, drawn := s.drawn, toks := s.toks, os := s.os } : Shared)).heap.objs.size := by
    show s.heap.objs.size < ((s.heap.push { cls := .type "list", data := .seq #[] }).update s.heap.objs.size (Obj.mapSeq fun _ => #[])).objs.size
    rw [Heap.size_update]
    exact Heap.lt_size hS
  revert I2 ha2 hqq hs2 hqs hq0
  generalize upd H s.heap.objs.size (.lst []) = Hq
  generalize ({ heap := ((s.heap.push { cls := .type "list", data := .seq #[] }).update s.heap.objs.size (Obj.mapSeq fun _ => #[])), gens := s.gens, drawn := s.drawn, toks := s.toks, os := s.os } : Shared) = sq
  revert hlq
  generalize s.heap.objs.size = q
  intro hlq hq0 I2 ha2 hqq hs2 hqs
  have hne : q ≠ a := ne_of hqq ha2 (fun z => nomatch z)
  obtain ⟨mA, J, _⟩ := ins_get I2.hok ha2
  obtain ⟨od, J, _⟩ := J.look
  obtain ⟨m0, hF⟩ := I2.fr
  unfold Builtin.List.listExtendWith
  refine wpAny_bind (J.type.here ?_)
  have h1 : Builtin.List.listSameRef (.ref q) (.ref a) = false := by simp [Builtin.List.listSameRef, hne]
  have h2 : (Value.ref C == Value.type "list") = false := rfl
  have h3 : (Value.ref C == Value.type "tuple") = false := rfl
  simp only [h1, h2, h3, Bool.or_false, Bool.false_eq_true, if_false]
  refine wpAny_bind (PySem.W.owit_iter hF I2.ok.mod.kin J hsI hfI (wpAny_mono (run_subN (Q := fun v H' => ∃ it, v = .ref it ∧ Hq it = none ∧ sq.heap.objs.size ≤ it ∧ H' = upd Hq it (ItO l it 0)) (us := [.ref a]) (vs := [.ref a]) sbI FI bI .nil I2 (.cons rfl .nil)
    ⟨a, dx, fs, l, zs, rfl, ha2, hlk, hs2, fun it h0 h1 => ⟨it, rfl, h0, h1, rfl⟩⟩) (fun u s2 z => ?_) fun _ _ x => x))
  obtain ⟨v, H', I3, rv, it, ev, h0, h1, eH⟩ := z
  subst ev
  subst eH
  cases rv
  have eo := itO_get I3 upd_same
  unfold PySem.W.OwitIt
  refine wpAny_specialOf (T := "list_iterator") ⟨_, eo, rfl⟩ slot_listiter_next.lookup ?_
  have tn : s2.heap.IsListIter it l 0 := ⟨_, eo, rfl, rfl⟩
  have hfp : FpOk X pins Hq it := by
    have := ItX.inv_fp I3 upd_same (Nat.le_trans I2.sz h1)
    rw [ItX.dropH_upd h0] at this
    exact this
  have I4 : Inv X pins σ Hq s2 := by
    have := ItX.inv_drop I3 (a := it) (φ := _) upd_same
    rw [ItX.dropH_upd h0] at this
    exact this
  have hiq : it ≠ q := Nat.ne_of_gt (Nat.lt_of_lt_of_le hqs h1)
  have I5 := I4.pinned (fp := [it]) (fun b hb => by rw [List.mem_singleton.mp hb]; exact hfp) (fun b hb => by rw [List.mem_singleton.mp hb]; exact ⟨_, eo, fun v => by simp [GNX.itObj]⟩)
  obtain ⟨mA', J', _⟩ := ins_get I4.hok ha2
  obtain ⟨od', J', _⟩ := J'.look
  refine wpAny_bind (wpAny_holding ?_)
  unfold Builtin.List.listLengthHint
  refine wpAny_bind (wpAny_bind (J'.type.here ((PySem.W.looks_findIn I4.kIn hsL).here ?_)))
  refine PySem.W.KFB.if_not rfl ?_
  refine PySem.W.KFB.if_so rfl ?_
  refine wpAny_bind (wpAny_rule ?_)
  refine wpAny_bind (wpAny_attempt ?_)
  obtain ⟨m1, hF1⟩ := I5.fr
  refine PySem.W.len_K hF1 I5.ok.mod.kin J' hsL hfL ?_
  refine wpAny_mono (run_subE (us := [.ref a]) (vs := [.ref a]) sbL FL bL I5 (.cons rfl .nil) hq0) (fun r s' z => ?_) fun _ _ x => x
  obtain ⟨w, H5, I6, rv, ⟨n, e, g0, g1⟩, gq, gs, gQ⟩ := z
  subst e
  obtain ⟨t, rfl⟩ := rv
  refine ⟨⟨g0, by omega⟩, ?_⟩
  refine wpAny_bind (wpAny_pure ?_)
  have hz62 : n.toNat ≤ sizeLine := by rw [sizeLine_eq]; omega
  refine PySem.W.KFB.if_not (notLongL hz62) ?_
  refine wpAny_pure ?_
  have hpin := I6.pin (it, _) (List.mem_append_right _ (List.mem_append_right _ (mem_pinsAt (List.mem_singleton.mpr rfl) eo)))
  have hf5 : FpOk X pins H5 it := ⟨hpin.2.1, hfp.2⟩
  have I7 : Inv X pins σ H5 { heap := s'.heap, gens := s'.gens, drawn := s'.drawn, toks := s'.toks + 1, os := s'.os } := I6.unpinned.tok _
  have tn5 : s'.heap.IsListIter it l 0 := ⟨_, hpin.1, rfl, rfl⟩
  have hh : X.A.in1.in1.handled = none := I.ok.hd hc
  have fin : ∀ sX : Shared, Inv X pins σ H5 sX → sX.heap.IsListIter it l 0 → codeAny (model X.prog X.w) X.A.in1 (.builtin "list.extend.loop" ⟨[.ref q, .ref it, .none], []⟩) (wants (fun r s₂ => r = .none ∧ EP X pins σ Q (.ref q) s₂) X.xe) sX := fun sX IX tX =>
    list_loop (Fin := fun H' => Q (.ref q) H') hh hzl hlq hiq (fun H' s' I' hR => ⟨rfl, .ref q, H', I', rfl, hR⟩) zs.length 0 H5 sX (by omega) IX gq gs hf5 tX gQ
  refine wpAny_ite_split (fun _ => ?_) (fun _ => wpAny_pure ⟨plainId_quiet PySem.F.plain_extend_loop _, fin _ I7 tn5⟩)
  refine wpAny_bind (wpAny_rule ?_)
  refine wpAny_bind ?_
  show wpAny _ _ (updateSeq q (·.push .none) >>= fun _ => updateSeq q (·.pop)) _ _ _
  obtain ⟨z, its, k, r3, hl3, e3⟩ := I7.lstM gq
  cases r3
  refine wpAny_bind (wpAny_updateSeq e3 rfl ?_)
  have I8 := I7.lset (f := (·.push Value.none)) (its' := [Value.none]) (ys := [.non]) (t' := s'.toks + 1) gq e3 (by simp) (.cons rfl .nil) (by rw [List.length_singleton, sizeLine_eq]; decide)
  obtain ⟨z4, its4, k4, r4, hl4, e4⟩ := I8.lstM upd_same
  obtain ⟨u4, rfl, ru4⟩ := r4.one
  refine wpAny_updateSeq e4 rfl ?_ (by show 1 ≤ sizeLine; rw [sizeLine_eq]; decide) (by show 0 ≤ sizeLine + 1; exact Nat.zero_le _)
  have I9 := I8.lset (f := (·.pop)) (its := [u4]) (its' := []) (ys := []) (t' := s'.toks + 1) upd_same e4 (by rfl) .nil (Nat.zero_le _)
  rw [upd_upd] at I9
  have hH : upd H5 q (.lst []) = H5 := by
    funext b
    by_cases hb : b = q
    · rw [hb, upd_same, gq]
    · rw [upd_ne hb]
  rw [hH] at I9
  refine wpAny_pure ⟨plainId_quiet PySem.F.plain_extend_loop _, fin _ I9 ?_⟩
  exact ⟨_, (Heap.get?_update_ne _ _ _ _ hiq).trans ((Heap.get?_update_ne _ _ _ _ hiq).trans hpin.1), rfl, rfl⟩
end
end GK

/-! ### list(x) over data, x of a class with its own __iter__ and __len__ -/
namespace GK
open PySem PySem.Spec PyProof.Rows L2
def gListO (C : Addr) (fld : Str) (W : FSpec) (x : D) (R : D → Prop) : Prop := ∃ es xs, x = .obj C es ∧ es.lookup fld = some (.lst xs) ∧ W [x] fun d => (∃ n : Int, d = .int n ∧ 0 ≤ n ∧ n ≤ 16777216) ∧ R (.lst xs)
section
variable {X : Cx} {B : List Addr} {k k1 k' : Nat} {C : Addr} {ps : List Str} {p pos : Pos} {e : Expr} {f1 : FE} {W : BSpec} {fld : Str}
theorem de_listO (hcalm : X.calm = true) (ci : CalIL X.prog X.w X.K X.mg X.base C k fld) (c : CalM X.prog X.w X.K X.mg X.base C "__len__" k1 ps (.own 0) [] W) (hr : Room k' X.A) (hz : X.mg "list" = none) (ha : DE X B e (.own 0) f1) (hk : k + 2 ≤ k' := by decide) (hk1 : k1 + 3 ≤ k' := by decide) (hg : Gl X "list" := by rfl) (he : starEach [e] X.env = (false, eval e X.env) :: starEach [] X.env := by rfl) (hpl : (backTo pos (starEach [] X.env)).any (·.1) = false := by rfl) :
    DE X B (.Call (.Name "list" p) [e] [] pos) (.own 1) (fun ρ R => f1 ρ fun x => gListO C fld (W B) x R) := by
  obtain ⟨f, fd, ds, dvs, F, hm, hbd, hd, hdd⟩ := c.ex
  obtain ⟨rfl, rfl⟩ := dflt_nil hd hdd
  obtain ⟨fi, fdi, FI, hmi, hbi⟩ := ci.ex
  refine PE.imp (pe_callTy (call_listO (fld := fld) hcalm FI hbi hmi.at_ hmi.fn F hbd hm.at_ hm.fn (hr.mono hk) (hr.mono hk1)) hg hz (by decide +kernel) (da_cons ha da_nil he) (by decide) (by decide) he hpl) fun σ H Q ⟨F, ρ, fp, R, S, hf, kk⟩ => ?_
  refine ⟨F, ρ, fp, fun xs => ∃ x, xs = [x] ∧ gListO C fld (W B) x R, S, ?_, fun F1 H1 vs xs fp1 s1 hv o1 n1 ⟨x, ex, hx⟩ => ?_⟩
  · show f1 ρ fun x => ∃ y, [x] = [y] ∧ gListO C fld (W B) y R
    have : (fun x => ∃ y, [x] = [y] ∧ gListO C fld (W B) y R) = fun x => gListO C fld (W B) x R := by
      funext x
      refine propext ⟨fun ⟨y, e, h⟩ => ?_, fun h => ⟨x, rfl, h⟩⟩
      cases e
      exact h
    rw [this]
    exact hf
  subst ex
  obtain ⟨v, rfl, hv1⟩ := hv.one
  obtain ⟨es, zs, rfl, hl, hW⟩ := hx
  have hx2 : GK.R X.K F1 v (.obj C es) := hv1.1
  obtain ⟨a, dx, gs, rfl, ha, hk2, rl⟩ := hx2.objI
  obtain ⟨i, u, e1, e2, e3⟩ := lookup_some hk2 hl
  obtain ⟨u', e4, ru⟩ := rl.get e3
  rw [e2] at e4
  cases e4
  obtain ⟨l, vs, rfl, h1, r⟩ := ru.lstI
  refine ⟨a, dx, gs, l, vs, rfl, ins_of s1.wf (s1.wf.sub _ _ ha), e1, lst_sub s1.wf h1, fun q hq => ?_⟩
  have k2 := kk.after s1 (A1 := []) fun a ha => (by cases ha)
  have w2 := s1.wf.laid hq (o := .lst []) rfl
  have sl : Step B [] F1 H1 F1 (upd H1 q (.lst [])) := Step.laid s1.wf hq rfl
  have hB : q ∉ B := s1.wf.notB hq
  have hFq : F1 q = none := F_none s1.wf hq
  refine call_all (A := []) w2 (.cons hx2 .nil) hW fun F3 H3 v3 d3 f3 s3 hv3 o3 n3 ⟨⟨n, ed, h0, h1'⟩, hR⟩ => ?_
  subst ed
  obtain ⟨rfl, _⟩ := hv3.int
  have hq3 : H3 q = some (.lst []) := s3.same q _ hB upd_same
  have hF3 : F3 q = none := s3.out upd_same trivial hB hFq (by simp)
  refine ⟨⟨n, rfl, h0, h1'⟩, hq3, lst_sub s3.wf (s3.fs _ _ h1), ?_⟩
  have s4 : Step B [] F1 H1 F3 (upd H3 q (.lst vs)) := (sl.trans (A1 := []) s3 fun a ha => (by cases ha)).mutNew hq hF3 hB rfl
  exact k2 F3 _ (.ref q) (.lst zs) [q] s4 ⟨q, vs, [], rfl, upd_same, rfl, OwnL.zero (r.mono s3.fs)⟩ (fun b hb => by rw [List.mem_singleton.mp hb]; exact ⟨.inr hq, hF3, hB⟩) (List.pairwise_singleton _ _) hR
end
end GK

/-! ### tests that change what the names own -/
namespace GK
open PySem PySem.Spec PyProof.Rows L2
abbrev FTM := Env → (Bool → Env → Prop) → Prop
def tDTM (K : PySem.W.Frag) (B : List Addr) (pin : Nat) (f : FTM) : TT := fun σ H Q =>
  ∃ Pn Z0 F0 F ρ fp R, Pn.length = pin ∧ StOk K B Pn Z0 F0 F H σ ρ fp ∧ f ρ R ∧ ∀ F' H' ρ' fp' b, StOk K B Pn Z0 F0 F' H' σ ρ' fp' → R b ρ' → Q b H'
abbrev DTM (X : Cx) (B : List Addr) (e : Expr) (pin : Nat) (f : FTM) : Prop := PT X e (tDTM X.K B pin f)
abbrev DWM (X : Cx) (B : List Addr) (e : Expr) (pin : Nat) (f : FTM) : Prop := PW X e (tDTM X.K B pin f)
section
variable {X : Cx} {B : List Addr} {a b e : Expr} {rest : List Expr} {pos : Pos} {m : Mode} {pin : Nat} {ft : FT} {f1 f2 : FTM} {fm : FM} {mr : Mode} {g g' : FS} {sa sb : List Stmt}
theorem dtm_of (h : DT X B e ft) : DTM X B e pin (fun ρ R => ft ρ fun c => R c ρ) := PT.imp h fun σ H Q ⟨Pn, Z0, F0, F, ρ, fp, R, hp, S, hf, k⟩ =>
  ⟨F, ρ, fp, _, S.base, hf, fun F' H' c s hR => k F' H' ρ fp c (S.step s fun a h => (by cases h)) hR⟩
theorem dtm_isnot (ha : DM X B a pin (.own 0) fm) (hb : DE X B b (.own 0) (fun _ R => R .non)) : DTM X B (.Compare a [.IsNot] [b] pos) pin (fun ρ R => fm ρ fun d ρ1 => d = .non ∧ R false ρ1) :=
  PT.imp (pt_cmpR op_notN' ha hb (nomark _)) fun σ H Q ⟨Pn, Z0, F0, F, ρ, fp, R, hp, S, hf, k⟩ => by
    refine ⟨Pn, Z0, F0, F, ρ, fp, _, hp, S, hf, fun F' H' ρ' fp' v d f' S' hv ap hR => ?_⟩
    obtain ⟨rfl, hR⟩ := hR
    obtain ⟨rfl, rfl⟩ := hv.non
    refine ⟨F', ρ', fp', fun d => d = .non, S'.base, rfl, fun F2 H2 v2 d2 f2 s2 hv2 o2 n2 hd => ?_⟩
    subst hd
    obtain ⟨rfl, rfl⟩ := hv2.non
    exact ⟨rfl, _, rfl, k F2 H2 ρ' fp' false (S'.step s2 fun a h => (by cases h)) hR⟩
theorem dtm_is (ha : DM X B a pin (.own 0) fm) (hb : DE X B b (.own 0) (fun _ R => R .non)) : DTM X B (.Compare a [.Is] [b] pos) pin (fun ρ R => fm ρ fun d ρ1 => d = .non ∧ R true ρ1) :=
  PT.imp (pt_cmpR op_isN' ha hb (nomark _)) fun σ H Q ⟨Pn, Z0, F0, F, ρ, fp, R, hp, S, hf, k⟩ => by
    refine ⟨Pn, Z0, F0, F, ρ, fp, _, hp, S, hf, fun F' H' ρ' fp' v d f' S' hv ap hR => ?_⟩
    obtain ⟨rfl, hR⟩ := hR
    obtain ⟨rfl, rfl⟩ := hv.non
    refine ⟨F', ρ', fp', fun d => d = .non, S'.base, rfl, fun F2 H2 v2 d2 f2 s2 hv2 o2 n2 hd => ?_⟩
    subst hd
    obtain ⟨rfl, rfl⟩ := hv2.non
    exact ⟨rfl, _, rfl, k F2 H2 ρ' fp' true (S'.step s2 fun a h => (by cases h)) hR⟩
theorem dwm_and1 (h : DTM X B a pin f1) : DWM X B (.BoolOp .And [a] pos) pin f1 := pw_and1 h
theorem dwm_or1 (h : DTM X B a pin f1) : DWM X B (.BoolOp .Or [a] pos) pin f1 := pw_or1 h
theorem dwm_and (h : DTM X B a pin f1) (h' : DWM X B (.BoolOp .And (b :: rest) pos) pin f2) : DWM X B (.BoolOp .And (a :: b :: rest) pos) pin (fun ρ R => f1 ρ fun c ρ1 => if c = true then f2 ρ1 R else R false ρ1) :=
  PW.imp (pw_and h h') fun σ H Q ⟨Pn, Z0, F0, F, ρ, fp, R, hp, S, hf, k⟩ => ⟨Pn, Z0, F0, F, ρ, fp, _, hp, S, hf, fun F1 H1 ρ1 fp1 c S1 hR => by
    cases c with
    | true => exact ⟨Pn, Z0, F0, F1, ρ1, fp1, R, hp, S1, hR, k⟩
    | false => exact k F1 H1 ρ1 fp1 _ S1 (by simpa using hR)⟩
theorem dwm_or (h : DTM X B a pin f1) (h' : DWM X B (.BoolOp .Or (b :: rest) pos) pin f2) : DWM X B (.BoolOp .Or (a :: b :: rest) pos) pin (fun ρ R => f1 ρ fun c ρ1 => if c = true then R true ρ1 else f2 ρ1 R) :=
  PW.imp (pw_or h h') fun σ H Q ⟨Pn, Z0, F0, F, ρ, fp, R, hp, S, hf, k⟩ => ⟨Pn, Z0, F0, F, ρ, fp, _, hp, S, hf, fun F1 H1 ρ1 fp1 c S1 hR => by
    cases c with
    | true => exact k F1 H1 ρ1 fp1 _ S1 (by simpa using hR)
    | false => exact ⟨Pn, Z0, F0, F1, ρ1, fp1, R, hp, S1, by simpa using hR, k⟩⟩
theorem dtm_bool (h : DWM X B e pin f1) : DTM X B e pin f1 := h.pt
theorem dtm_not (h : DTM X B a pin f1) : DTM X B (.UnaryOp .Not a pos) pin (fun ρ R => f1 ρ fun c ρ1 => R (!c) ρ1) :=
  PT.imp (pt_not h) fun _ _ _ ⟨Pn, Z0, F0, F, ρ, fp, R, hp, S, hf, k⟩ => ⟨Pn, Z0, F0, F, ρ, fp, _, hp, S, hf, fun F' H' ρ' fp' c S' hR => k F' H' ρ' fp' _ S' hR⟩
theorem ds_ifM (hc : DTM X B e pin f1) (ha : DSs X B sa pin mr g) (hb : DSs X B sb pin mr g') : DS X B (.If e sa sb pos) pin mr (fun E ρ => f1 ρ fun t ρ1 => if t = true then g E ρ1 else g' E ρ1) :=
  PS.imp (ps_if hc ha hb) fun Dn σ H ⟨Pn, Z0, F0, F, ρ, fp, E, hpl, S, hg, L⟩ => ⟨Pn, Z0, F0, F, ρ, fp, _, hpl, S, hg, fun F' H' ρ' fp' t S' ht => by
    cases t with
    | true => exact ⟨Pn, Z0, F0, F', ρ', fp', E, hpl, S', ht, L⟩
    | false => exact ⟨Pn, Z0, F0, F', ρ', fp', E, hpl, S', by simpa using ht, L⟩⟩
end
end GK

/-! ### own operators on objects that others own -/
namespace GK
open PySem PySem.Spec PyProof.Rows L2
section
variable {X : Cx} {B : List Addr} {k k' n : Nat} {C : Addr} {ps : List Str} {pos : Pos} {a b : Expr} {m1 m2 : Mode} {f1 f2 : FE} {W : BSpec} {mt : Str}
theorem de_ownBinR {op : Operator} (c : CalM X.prog X.w X.K X.mg X.base C mt k ps (.own n) [] W) (sf : PySem.W.selfFirst X.K C = true) (hr : Room k' X.A) (ha : DE X B a m1 f1) (hb : DE X B b m2 f2) (hk : k ≤ k' := by decide) (hmt : PySem.dunder op.info.2 = mt := by decide) :
    DE X B (.BinOp a op b pos) (.own n) (fun ρ R => f1 ρ fun x => f2 ρ fun y => isObj C x ∧ isObj C y ∧ W B [x, y] fun d => flatN n d = true ∧ R d) := by
  obtain ⟨f, fd, ds, dvs, F, hm, hbd, hd, hdd⟩ := c.ex
  obtain ⟨rfl, rfl⟩ := dflt_nil hd hdd
  refine PE.imp (pe_op (op_ownBin F (hr.mono hk) hbd (by rw [hmt]; exact hm.at_) hm.fn sf) ha hb) fun σ H Q ⟨F, ρ, fp, R, S, hf, kk⟩ => ?_
  refine ⟨F, ρ, fp, _, S, hf, fun F1 H1 v x g1 s1 hv o1 n1 hR => ?_⟩
  refine ⟨F1, ρ, fp, _, S.step s1 (fun a ha => by cases ha), hR, fun F2 H2 w y g2 s2 hw o2 n2 ⟨hx, hy, hW⟩ => ?_⟩
  obtain ⟨es, rfl⟩ := hx.inv
  obtain ⟨es', rfl⟩ := hy.inv
  have hx1 : GK.R X.K (rdH B H1) v (.obj C es) := hv.rd s1.wf fun a ha => (o1 a ha).2.2
  have hx2 : GK.R X.K (rdH B H2) v (.obj C es) := hx1.mono (rdH_same s2.same)
  have hy2 : GK.R X.K (rdH B H2) w (.obj C es') := hw.rd s2.wf fun a ha => (o2 a ha).2.2
  obtain ⟨a1, d1, l1, ev, ea, _, _⟩ := hx2.objI
  obtain ⟨a2, d2, l2, ew, eb, _, _⟩ := hy2.objI
  refine ⟨⟨a1, d1, l1, ev, ins_of s2.wf ea⟩, ⟨a2, d2, l2, ew, ins_of s2.wf eb⟩, ?_⟩
  exact call_rd s2.wf (.cons hx2 (.cons hy2 .nil)) hW ((kk.after s1 (A1 := []) fun a ha => (by cases ha)).after s2 (A1 := []) fun a ha => (by cases ha))
end
end GK

namespace GK
open PySem PySem.Spec PyProof.Rows L2
def topS (i : Nat) : Stmt := PySem.Challenge.pw_giftskept_k12_book_as_a_set.main.body.getD i (.Pass ⟨0, 0, 0, 0⟩)
structure Bi (mg : Str → Option Value) : Prop where
  bool_ : mg "bool" = none
  int_ : mg "int" = none
  isinstance_ : mg "isinstance" = none
  iter_ : mg "iter" = none
  len_ : mg "len" = none
  list_ : mg "list" = none
  max_ : mg "max" = none
  min_ : mg "min" = none
  range_ : mg "range" = none
  sorted_ : mg "sorted" = none
  str_ : mg "str" = none
  tuple_ : mg "tuple" = none
structure KBook (K : PySem.W.Frag) (C : Addr) : Prop where
  cl : Cls K C
  n__rows : NoAttr K C "_rows"
end GK

namespace GK
open PySem PySem.Spec PyProof.Rows L2
/-- an entry: its parts -/
abbrev Ent := List Key
def enD (e : Ent) : D := .tup (e.map keyD)
def isS : Key → Bool
  | .inl _ => false
  | .inr _ => true
/-- what comes behind kind, number and day: True for a text -/
def shp (k : Str) : Option (List Bool) :=
  if k = "strike" then some [false] else if k = "apply" then some [true, false, false] else if k = "attribute" then some [true, true, false]
  else if k = "need" then some [true, true, false] else if k = "aid" then some [true, false] else if k = "gift" then some [true, false] else none
structure EnOk (e : Ent) : Prop where
  ex : ∃ k n d r, e = .inr k :: .inl n :: .inl d :: r ∧ shp k = some (r.map isS)
  st : ∀ s, .inr s ∈ e → strOk s = true ∧ s.length ≤ 1000
theorem EnOk.so {e : Ent} (h : EnOk e) : ∀ s, .inr s ∈ e → strOk s = true := fun s hs => (h.st s hs).1
def num : Ent → Int
  | _ :: .inl n :: _ => n
  | _ => 0
def day : Ent → Int
  | _ :: _ :: .inl n :: _ => n
  | _ => 0
theorem keyD_inj : ∀ a b : Key, keyD a = keyD b → a = b
  | .inl a, .inl b, h => by injection h with h; rw [h]
  | .inr a, .inr b, h => by injection h with h; rw [h]
  | .inl _, .inr _, h => by cases h
  | .inr _, .inl _, h => by cases h
theorem emap_inj {α β : Type} {f : α → β} (hf : ∀ a b, f a = f b → a = b) : ∀ {l m : List α}, l.map f = m.map f → l = m
  | [], [], _ => rfl
  | [], b :: m, h => by cases h
  | a :: l, [], h => by cases h
  | a :: l, b :: m, h => by
    rw [List.map_cons, List.map_cons] at h
    injection h with h1 h2
    rw [hf _ _ h1, emap_inj hf h2]
theorem enD_inj (a b : Ent) (h : enD a = enD b) : a = b := by
  unfold enD at h
  injection h with h
  exact emap_inj keyD_inj h
theorem pn_key (k : Key) : pnD (keyD k) = true := by cases k <;> rfl
theorem pn_en (e : Ent) : pnD (enD e) = true := pn_map fun k _ => pn_key k
theorem ok_key {n : Nat} {k : Key} (h : ∀ s, k = .inr s → strOk s = true) : okD n (keyD k) = true := by
  cases k with
  | inl i => cases n <;> simp [keyD, okD]
  | inr s =>
    have := h s rfl
    cases n <;> (unfold keyD okD; exact this)
theorem ok_en {n : Nat} {e : Ent} (h : ∀ s, .inr s ∈ e → strOk s = true) : okD (n + 1) (enD e) = true := okDs_all fun d hd => by
  obtain ⟨k, hk, rfl⟩ := List.mem_map.mp hd
  exact ok_key fun s e => h s (e ▸ hk)
theorem cmp_tail : ∀ (r r' : List Key), r.map isS = r'.map isS → PySem.GKC.cmpAll (toPs (r.map keyD)) (toPs (r'.map keyD)) = true
  | [], _, _ => by simp [toPs, PySem.GKC.cmpAll]
  | a :: r, [], h => by cases h
  | a :: r, b :: r', h => by
    rw [List.map_cons, List.map_cons] at h
    injection h with h1 h2
    have ih := cmp_tail r r' h2
    have e1 : PySem.GKC.cmpb (toP (keyD a)) (toP (keyD b)) = true := by
      cases a <;> cases b <;> first | (cases h1; done) | simp [keyD, toP, PySem.GKC.cmpb]
    simp only [List.map_cons, toPs, PySem.GKC.cmpAll]
    rw [e1, ih]
    simp
theorem cmp_en {a b : Ent} (ha : EnOk a) (hb : EnOk b) : cmpD (enD a) (enD b) = true := by
  obtain ⟨k, n, d, r, rfl, h1⟩ := ha.ex
  obtain ⟨k', n', d', r', rfl, h2⟩ := hb.ex
  unfold cmpD enD
  simp only [toP]
  rw [PySem.GKC.cmpb]
  by_cases e : k = k'
  · subst e
    refine cmp_tail _ _ ?_
    have : r.map isS = r'.map isS := by rw [h1] at h2; exact Option.some.inj h2
    simp only [List.map_cons, this]
    rfl
  · simp only [List.map_cons, toPs, keyD, toP]
    rw [PySem.GKC.cmpAll]
    have e2 : PyData.eqv (.str k) (.str k') = false := by simpa [PyData.eqv] using e
    rw [e2]
    simp [PySem.GKC.cmpb]
/-- an entry behind its number -/
def pairD (e : Ent) : D := .tup [.int (num e), enD e]
def leE (a b : Ent) : Bool := leD (pairD a) (pairD b)
theorem cmp_pair {a b : Ent} (ha : EnOk a) (hb : EnOk b) : cmpD (pairD a) (pairD b) = true := by
  have h := cmp_en ha hb
  unfold cmpD pairD
  simp only [toP, toPs]
  simp [PySem.GKC.cmpb, PySem.GKC.cmpAll]
  exact .inr h
def knE (es : List Ent) : List (Ent × Bool) := es.foldl (fun l e => iA l e true) []
def ddE (es : List Ent) : List Ent := (knE es).map (·.1)
def ordE (es : List Ent) : List Ent := (ddE es).mergeSort leE
def kT (l : List (Ent × Bool)) : D := .dT (l.map (kvA (fun e => e) D.bl))
theorem keysOf_en : ∀ e : List Key, keysOf (e.map keyD) = some e
  | [] => rfl
  | .inl i :: e => by rw [List.map_cons, keysOf]; rw [keysOf_en e]; rfl
  | .inr i :: e => by rw [List.map_cons, keysOf]; rw [keysOf_en e]; rfl
theorem keyT_en (e : Ent) : keyT (enD e) = some e := keysOf_en e
theorem knE_snoc (es : List Ent) (e : Ent) : knE (es ++ [e]) = iA (knE es) e true := by unfold knE; rw [List.foldl_append]; rfl
theorem snocI {α : Type} {p : List α → Prop} (h0 : p []) (h1 : ∀ l a, p l → p (l ++ [a])) (l : List α) : p l := by
  have key : ∀ l : List α, p l.reverse := fun l => by
    induction l with
    | nil => exact h0
    | cons a l ih => rw [List.reverse_cons]; exact h1 _ a ih
  have := key l.reverse
  rwa [List.reverse_reverse] at this
theorem knE_len : ∀ es : List Ent, (knE es).length ≤ es.length := snocI (Nat.le_refl _) fun l a ih => by
  rw [knE_snoc, List.length_append]
  have := iA_len (l := knE l) (k := a) (v := true)
  show _ ≤ l.length + 1
  omega
theorem ddE_nodup : ∀ es : List Ent, (ddE es).Nodup := snocI List.nodup_nil fun l a ih => by
  unfold ddE
  rw [knE_snoc]
  exact iA_nodup ih
theorem ddE_mem : ∀ (es : List Ent) (e : Ent), e ∈ ddE es ↔ e ∈ es := fun es => by
  refine snocI (p := fun es => ∀ e : Ent, e ∈ ddE es ↔ e ∈ es) (fun e => Iff.rfl) (fun l a ih e => ?_) es
  unfold ddE
  rw [knE_snoc, iA_keys]
  rw [List.mem_append, List.mem_singleton]
  exact or_congr (ih e) Iff.rfl
theorem ddE_len (es : List Ent) : (ddE es).length ≤ es.length := by unfold ddE; rw [List.length_map]; exact knE_len es
theorem ddE_id : ∀ es : List Ent, es.Nodup → ddE es = es := snocI (fun _ => rfl) fun l a ih nd => by
  obtain ⟨n1, _, n3⟩ := List.nodup_append.mp nd
  have hm : a ∉ (knE l).map (·.1) := fun z => by
    have := (ddE_mem l a).mp z
    exact n3 a this a List.mem_cons_self rfl
  unfold ddE
  rw [knE_snoc, iA_new hm, List.map_append]
  show ddE l ++ [a] = _
  rw [ih n1]
theorem ordE_perm (es : List Ent) : (ordE es).Perm (ddE es) := List.mergeSort_perm _ _
theorem ordE_mem {es : List Ent} {e : Ent} : e ∈ ordE es ↔ e ∈ es := (ordE_perm es).mem_iff.trans (ddE_mem es e)
theorem ordE_nodup (es : List Ent) : (ordE es).Nodup := (ordE_perm es).nodup_iff.mpr (ddE_nodup es)
theorem ordE_len (es : List Ent) : (ordE es).length ≤ es.length := by rw [(ordE_perm es).length_eq]; exact ddE_len es
theorem gSortC_pair {l : List Ent} {R : D → Prop} (h : ∀ e ∈ l, EnOk e) (q : R (.lst ((l.mergeSort leE).map pairD))) : gSortC [.lst (l.map pairD)] R := by
  refine ⟨⟨fun d hd => ?_, fun d hd e he => ?_, fun d hd => ?_, fun d hd => ?_⟩, ?_⟩
  · obtain ⟨e, he, rfl⟩ := List.mem_map.mp hd
    refine okDs_all fun d hd => ?_
    rcases List.mem_cons.mp hd with rfl | hd
    · simp [okD]
    · rw [List.mem_singleton.mp hd]
      exact ok_en (n := 62) (h e he).so
  · obtain ⟨x, hx, rfl⟩ := List.mem_map.mp hd
    obtain ⟨y, hy, rfl⟩ := List.mem_map.mp he
    exact cmp_pair (h x hx) (h y hy)
  · obtain ⟨e, he, rfl⟩ := List.mem_map.mp hd
    exact pnDs_all fun d hd => by
      rcases List.mem_cons.mp hd with rfl | hd
      · rfl
      · rw [List.mem_singleton.mp hd]
        exact pn_en e
  · obtain ⟨e, he, rfl⟩ := List.mem_map.mp hd
    exact ⟨_, _, rfl⟩
  · have e : (l.map pairD).mergeSort leD = (l.mergeSort leE).map pairD := (List.map_mergeSort (f := pairD) (r := leE) (s := leD) (l := l) fun a _ b _ => rfl).symm
    rw [e]
    exact q
theorem num_ix {e : Ent} (h : EnOk e) {R : D → Prop} (q : R (.int (num e))) : gIx (enD e) (.int 1) R := by
  obtain ⟨k, n, d, r, rfl, _⟩ := h.ex
  exact gIx_tl (k := 1) rfl q
theorem day_ix {e : Ent} (h : EnOk e) {R : D → Prop} (q : R (.int (day e))) : gIx (enD e) (.int 2) R := by
  obtain ⟨k, n, d, r, rfl, _⟩ := h.ex
  exact gIx_tl (k := 2) rfl q
def bkD (C : Addr) (r : List Ent) : D := .obj C [("_rows", .lst (r.map enD))]
theorem fld_bk {C : Addr} {r : List Ent} {R : D → Prop} (q : R (.lst (r.map enD))) : gFld C "_rows" (bkD C r) R := ⟨rfl, _, rfl, q⟩
theorem okRows {r : List Ent} (h : ∀ e ∈ r, EnOk e) : okD 60 (.lst (r.map enD)) = true := okDs_all fun d hd => by
  obtain ⟨e, he, rfl⟩ := List.mem_map.mp hd
  exact ok_en (n := 58) (h e he).so
theorem pnRows (r : List Ent) : pnD (.lst (r.map enD)) = true := pn_map fun e _ => pn_en e
theorem rows_inj {r q : List Ent} (h : D.lst (r.map enD) = D.lst (q.map enD)) : r = q := by
  injection h with h
  exact emap_inj enD_inj h
theorem dec_iff {p : Prop} (i : Decidable p) : @decide p i = true ↔ p := decide_eq_true_iff
theorem en_ok {k : Str} {n d : Int} {r : List Key} (h : shp k = some (r.map isS)) (hk : strOk k = true ∧ k.length ≤ 1000) (hr : ∀ s, .inr s ∈ r → strOk s = true ∧ s.length ≤ 1000) : EnOk (.inr k :: .inl n :: .inl d :: r) :=
  ⟨⟨k, n, d, r, rfl, h⟩, fun s hs => by
    simp only [List.mem_cons, reduceCtorEq, false_or, Sum.inr.injEq] at hs
    rcases hs with rfl | hs
    · exact hk
    · exact hr s hs⟩
theorem mapg {α : Type} {f : α → D} {l : List α} {k : Nat} (h : k < l.length) : (l.map f)[k]? = some (f l[k]) := by
  rw [List.getElem?_map, List.getElem?_eq_getElem h]; rfl
def leK (a b : Ent) : Bool := leD (enD a) (enD b)
theorem leK_total : PySem.W.TotalLe leK := ⟨fun a b c => leD_total.trans (enD a) (enD b) (enD c), fun a b => leD_total.total (enD a) (enD b)⟩
theorem leE_total : PySem.W.TotalLe leE := ⟨fun a b c => leD_total.trans (pairD a) (pairD b) (pairD c), fun a b => leD_total.total (pairD a) (pairD b)⟩
theorem pair_inj (a b : Ent) (h : pairD a = pairD b) : a = b := by
  unfold pairD at h
  injection h with h
  injection h with _ h
  injection h with h _
  exact enD_inj _ _ h
theorem leE_anti {a b : Ent} (ha : EnOk a) (hb : EnOk b) (h1 : leE a b = true) (h2 : leE b a = true) : a = b := by
  refine pair_inj _ _ (leD_anti (cmp_pair ha hb) ?_ ?_ h1 h2)
  · exact pnDs_all fun d hd => by
      rcases List.mem_cons.mp hd with rfl | hd
      · rfl
      · rw [List.mem_singleton.mp hd]; exact pn_en a
  · exact pnDs_all fun d hd => by
      rcases List.mem_cons.mp hd with rfl | hd
      · rfl
      · rw [List.mem_singleton.mp hd]; exact pn_en b
theorem leE_iff {a b : Ent} (ha : EnOk a) (hb : EnOk b) : leE a b = true ↔ num a < num b ∨ (num a = num b ∧ leK a b = true) :=
  pair_lt _ _ _ _ (fun _ => cmp_en hb ha) (pn_en a) (pn_en b)
theorem sort_pw {le : Ent → Ent → Bool} (t : PySem.W.TotalLe le) (l : List Ent) : (l.mergeSort le).Pairwise fun a b => le a b = true :=
  List.pairwise_mergeSort t.trans (fun a b => by rcases t.total a b with h | h <;> simp [h]) l
theorem ord_uniq {l m : List Ent} (ok : ∀ e ∈ l, EnOk e) (p : l.Perm m) (h1 : l.Pairwise fun a b => leE a b = true) (h2 : m.Pairwise fun a b => leE a b = true) : l = m :=
  List.Perm.eq_of_pairwise (le := fun a b => leE a b = true) (fun a b ha hb h1 h2 => leE_anti (ok a ha) (ok b (p.mem_iff.mpr hb)) h1 h2) h1 h2 p
theorem ordE_pw (es : List Ent) : (ordE es).Pairwise fun a b => leE a b = true := sort_pw leE_total _
/-- in order, each once: determined by the members -/
theorem ord_mem {l : List Ent} {es : List Ent} (ok : ∀ e ∈ es, EnOk e) (nd : l.Nodup) (hm : ∀ e, e ∈ l ↔ e ∈ es) (h : l.Pairwise fun a b => leE a b = true) : l = ordE es :=
  ord_uniq (fun e he => ok e ((hm e).mp he)) ((List.perm_ext_iff_of_nodup nd (ordE_nodup es)).mpr fun e => (hm e).trans ordE_mem.symm) h (ordE_pw es)
theorem ordE_congr {a b : List Ent} (ok : ∀ e ∈ b, EnOk e) (h : ∀ e, e ∈ a ↔ e ∈ b) : ordE a = ordE b := ord_mem ok (ordE_nodup a) (fun e => ordE_mem.trans (h e)) (ordE_pw a)
theorem ordE_id {r : List Ent} (ok : ∀ e ∈ r, EnOk e) : ordE (ordE r) = ordE r := ordE_congr ok fun e => ordE_mem
/-- a part of a list in order is in order -/
theorem ordE_filter {r : List Ent} {p : Ent → Bool} (ok : ∀ e ∈ r, EnOk e) (h : ordE r = r) : ordE (r.filter p) = r.filter p := by
  refine (ord_mem (fun e he => ok e (List.mem_filter.mp he).1) ?_ (fun e => Iff.rfl) ?_).symm
  · have := ordE_nodup r
    rw [h] at this
    exact this.filter _
  · have := ordE_pw r
    rw [h] at this
    exact this.filter _
theorem nodup_le {α : Type} : ∀ {l m : List α}, l.Nodup → (∀ x ∈ l, x ∈ m) → l.length ≤ m.length
  | [], _, _, _ => Nat.zero_le _
  | a :: l, m, nd, h => by
    obtain ⟨n1, n2⟩ := List.nodup_cons.mp nd
    obtain ⟨p, q, rfl⟩ := List.append_of_mem (h a List.mem_cons_self)
    have ih := nodup_le (m := p ++ q) n2 fun x hx => by
      have := h x (List.mem_cons_of_mem _ hx)
      rcases List.mem_append.mp this with z | z
      · exact List.mem_append_left _ z
      · rcases List.mem_cons.mp z with z | z
        · exact absurd (z ▸ hx) n1
        · exact List.mem_append_right _ z
    rw [List.length_append] at ih ⊢
    rw [List.length_cons, List.length_cons]
    omega
def grp (r : List Ent) (ns : List Int) : List Ent := ns.flatMap fun m => (r.filter fun e => decide (num e = m)).mergeSort leK
theorem grp_mem {r : List Ent} {ns : List Int} {e : Ent} : e ∈ grp r ns ↔ e ∈ r ∧ num e ∈ ns := by
  unfold grp
  rw [List.mem_flatMap]
  constructor
  · rintro ⟨m, hm, he⟩
    have := List.mem_filter.mp ((List.mergeSort_perm _ _).mem_iff.mp he)
    exact ⟨this.1, by rw [of_decide_eq_true this.2]; exact hm⟩
  · rintro ⟨h1, h2⟩
    exact ⟨num e, h2, (List.mergeSort_perm _ _).mem_iff.mpr (List.mem_filter.mpr ⟨h1, decide_eq_true rfl⟩)⟩
theorem grp_cons {r : List Ent} {m : Int} {ns : List Int} : grp r (m :: ns) = (r.filter fun e => decide (num e = m)).mergeSort leK ++ grp r ns := rfl
theorem grp_snoc {r : List Ent} {m : Int} {ns : List Int} : grp r (ns ++ [m]) = grp r ns ++ (r.filter fun e => decide (num e = m)).mergeSort leK := by
  unfold grp
  rw [List.flatMap_append, List.flatMap_cons, List.flatMap_nil, List.append_nil]
theorem grp_len {r : List Ent} : ∀ {ns : List Int}, ns.Nodup → r.Nodup → (grp r ns).length ≤ r.length := fun {ns} nd nr => by
  have h1 : (grp r ns).Nodup := by
    induction ns with
    | nil => exact List.nodup_nil
    | cons m ns ih =>
      obtain ⟨n1, n2⟩ := List.nodup_cons.mp nd
      rw [grp_cons]
      refine List.nodup_append.mpr ⟨(List.mergeSort_perm _ _).nodup_iff.mpr (nr.filter _), ih n2, fun a ha b hb e => ?_⟩
      subst e
      have h1 := List.mem_filter.mp ((List.mergeSort_perm _ _).mem_iff.mp ha)
      have h2 := grp_mem.mp hb
      rw [of_decide_eq_true h1.2] at h2
      exact n1 h2.2
  exact nodup_le h1 fun e he => (grp_mem.mp he).1
theorem grp_nodup {r : List Ent} : ∀ {ns : List Int}, ns.Nodup → r.Nodup → (grp r ns).Nodup := fun {ns} nd nr => by
  induction ns with
  | nil => exact List.nodup_nil
  | cons m ns ih =>
    obtain ⟨n1, n2⟩ := List.nodup_cons.mp nd
    rw [grp_cons]
    refine List.nodup_append.mpr ⟨(List.mergeSort_perm _ _).nodup_iff.mpr (nr.filter _), ih n2, fun a ha b hb e => ?_⟩
    subst e
    have h1 := List.mem_filter.mp ((List.mergeSort_perm _ _).mem_iff.mp ha)
    have h2 := grp_mem.mp hb
    rw [of_decide_eq_true h1.2] at h2
    exact n1 h2.2
theorem grp_pw {r : List Ent} (ok : ∀ e ∈ r, EnOk e) : ∀ {ns : List Int}, ns.Pairwise (fun a b => a ≤ b) → ns.Nodup → (grp r ns).Pairwise fun a b => leE a b = true
  | [], _, _ => List.Pairwise.nil
  | m :: ns, h, nd => by
    obtain ⟨h1, h2⟩ := List.pairwise_cons.mp h
    obtain ⟨n1, n2⟩ := List.nodup_cons.mp nd
    rw [grp_cons]
    refine List.pairwise_append.mpr ⟨?_, grp_pw ok h2 n2, fun a ha b hb => ?_⟩
    · refine (sort_pw leK_total _).imp_of_mem fun {a b} ha hb hab => ?_
      have h1 := List.mem_filter.mp ((List.mergeSort_perm _ _).mem_iff.mp ha)
      have h2 := List.mem_filter.mp ((List.mergeSort_perm _ _).mem_iff.mp hb)
      exact (leE_iff (ok a h1.1) (ok b h2.1)).mpr (.inr ⟨(of_decide_eq_true h1.2).trans (of_decide_eq_true h2.2).symm, hab⟩)
    · have g1 := List.mem_filter.mp ((List.mergeSort_perm _ _).mem_iff.mp ha)
      have g2 := grp_mem.mp hb
      refine (leE_iff (ok a g1.1) (ok b g2.1)).mpr (.inl ?_)
      rw [of_decide_eq_true g1.2]
      have := h1 _ g2.2
      have : m ≠ num b := fun z => n1 (by rw [z]; exact g2.2)
      omega
theorem grp_ord {r : List Ent} {ns : List Int} (ok : ∀ e ∈ r, EnOk e) (nr : r.Nodup) (nd : ns.Nodup) (hm : ∀ e ∈ r, num e ∈ ns) : grp r (ns.mergeSort leI) = ordE r := by
  have nd' : (ns.mergeSort leI).Nodup := (sortI_perm ns).nodup_iff.mpr nd
  exact ord_mem ok (grp_nodup nd' nr) (fun e => grp_mem.trans ⟨fun h => h.1, fun h => ⟨h, sortI_mem.mpr (hm e h)⟩⟩) (grp_pw ok (sortI_pw ns) nd')
theorem gSortC_en {l : List Ent} {R : D → Prop} (h : ∀ e ∈ l, EnOk e) (q : R (.lst ((l.mergeSort leK).map enD))) : gSortC [.lst (l.map enD)] R := by
  refine ⟨⟨fun d hd => ?_, fun d hd e he => ?_, fun d hd => ?_, fun d hd => ?_⟩, ?_⟩
  · obtain ⟨e, he, rfl⟩ := List.mem_map.mp hd
    exact ok_en (n := 63) (h e he).so
  · obtain ⟨x, hx, rfl⟩ := List.mem_map.mp hd
    obtain ⟨y, hy, rfl⟩ := List.mem_map.mp he
    exact cmp_en (h x hx) (h y hy)
  · obtain ⟨e, he, rfl⟩ := List.mem_map.mp hd
    exact pn_en e
  · obtain ⟨e, he, rfl⟩ := List.mem_map.mp hd
    obtain ⟨k, n, d, r, rfl, _⟩ := (h e he).ex
    exact ⟨_, _, rfl⟩
  · have e : (l.map enD).mergeSort leD = (l.mergeSort leK).map enD := (List.map_mergeSort (f := enD) (r := leK) (s := leD) (l := l) fun a _ b _ => rfl).symm
    rw [e]
    exact q
theorem flat_en (e : Ent) : (enD e).flat = true := by
  have : ∀ l : List Key, flatL (l.map keyD) = true := fun l => by
    induction l with
    | nil => rfl
    | cons k l ih =>
      rw [List.map_cons, flatL, ih]
      cases k <;> rfl
  exact this e
theorem owl_bk {C : Addr} {r : List Ent} {R : List D → Prop} (q : R (r.map enD)) : ownL C "_rows" R (bkD C r) := ⟨rfl, _, rfl, q⟩
theorem lsO_bk {C : Addr} {r : List Ent} {W : FSpec} {R : D → Prop} (q : W [bkD C r] fun d => (∃ n : Int, d = .int n ∧ 0 ≤ n ∧ n ≤ 16777216) ∧ R (.lst (r.map enD))) : gListO C "_rows" W (bkD C r) R := ⟨_, _, rfl, rfl, q⟩
theorem cls_bk {C : Addr} {r : List Ent} : clsB C (bkD C r) = some true := if_pos rfl
theorem en_set {x : Ent} (h : EnOk x) {k : Nat} (h1 : 1 ≤ k) (hk : k < x.length) {p : Key} (hs : isS p = isS x[k]) (hst : ∀ s, p = .inr s → strOk s = true ∧ s.length ≤ 1000) : EnOk (x.set k p) := by
  refine ⟨?_, fun s hm => ?_⟩
  · obtain ⟨kd, n, d, r, rfl, e⟩ := h.ex
    match k, h1, hk, hs with
    | 1, _, _, hs =>
      cases p with
      | inl i => exact ⟨kd, i, d, r, rfl, e⟩
      | inr s => cases hs
    | 2, _, _, hs =>
      cases p with
      | inl i => exact ⟨kd, n, i, r, rfl, e⟩
      | inr s => cases hs
    | k + 3, _, hk, hs =>
      refine ⟨kd, n, d, r.set k p, rfl, ?_⟩
      have hk2 : k < r.length := by
        simp only [List.length_cons] at hk
        omega
      have hs2 : isS p = (r.map isS)[k]'(by rw [List.length_map]; exact hk2) := by
        rw [List.getElem_map]
        exact hs
      rw [e, List.map_set, hs2, List.set_getElem_self]
  · rcases List.mem_or_eq_of_mem_set hm with z | z
    · exact h.st s z
    · exact hst s z.symm
theorem set_ne {α : Type} {x : List α} {k : Nat} (hk : k < x.length) {p : α} (h : p ≠ x[k]) : x.set k p ≠ x := fun e => by
  have h1 := congrArg (fun l => l[k]?) e
  simp only [List.getElem?_set_self hk, List.getElem?_eq_getElem hk] at h1
  exact h (Option.some.inj h1)
/-- x[:k] + (p,) + x[k + 1:] -/
theorem put_go {x : Ent} {k : Nat} (hk : k < x.length) (hl : x.length ≤ 100) {p : Key} {R : D → Prop} (q : R (enD (x.set k p))) :
    gSlTp (enD x) none (some (k : Int)) fun a => 1 ≤ sizeLine ∧ gCatT a (.tup [keyD p]) fun b => iOf (fun lo => gSlTp (enD x) lo none fun y => gCatT b y R) (.int ((k : Int) + 1)) := by
  have e1 : HT.sIx (x.map keyD).length (x.map keyD).length (some (k : Int)) = k := by rw [HT.sIx_nat, List.length_map]; omega
  have e2 : HT.sIx (x.map keyD).length 0 (some ((k : Int) + 1)) = k + 1 := by
    rw [show ((k : Int) + 1) = ((k + 1 : Nat) : Int) from rfl, HT.sIx_nat, List.length_map]; omega
  have e3 : HT.sIx (x.map keyD).length 0 none = 0 := rfl
  have e4 : HT.sIx (x.map keyD).length (x.map keyD).length none = (x.map keyD).length := rfl
  have c1 : cutD (x.map keyD) none (some (k : Int)) = (x.map keyD).take k := by
    unfold cutD
    rw [e1, e3, List.drop_zero, Nat.sub_zero]
  have c2 : cutD (x.map keyD) (some ((k : Int) + 1)) none = (x.map keyD).drop (k + 1) := by
    unfold cutD
    rw [e2, e4, List.take_of_length_le (by rw [List.length_drop]; exact Nat.le_refl _)]
  refine ⟨fun z => ?_, ?_⟩
  · rw [e1, List.length_map] at z; omega
  rw [c1]
  refine ⟨by decide, gCatT_go (by rw [List.length_take, List.length_map, szL]; simp; omega) ?_⟩
  refine ⟨fun z => ?_, ?_⟩
  · rw [e2] at z; omega
  rw [c2]
  refine gCatT_go (by rw [List.length_append, List.length_take, List.length_drop, List.length_map, szL]; simp; omega) ?_
  have e : (x.map keyD).take k ++ [keyD p] ++ (x.map keyD).drop (k + 1) = (x.set k p).map keyD := by
    rw [List.set_eq_take_append_cons_drop, if_pos hk, List.map_append, List.map_cons, ← List.map_take, ← List.map_drop]
    simp
  rw [e]
  exact q
theorem en_len {x : Ent} (h : EnOk x) : 4 ≤ x.length ∧ x.length ≤ 6 := by
  obtain ⟨k, n, d, r, rfl, e⟩ := h.ex
  have : 1 ≤ (r.map isS).length ∧ (r.map isS).length ≤ 3 := by
    unfold shp at e
    revert e
    repeat' split
    all_goals first
      | (intro e; rw [← Option.some.inj e]; decide)
      | (intro e; cases e)
  rw [List.length_map] at this
  simp only [List.length_cons]
  omega
theorem cut1_len {z : Str} (h : 1 ≤ z.length) : (cutS z (some 1) none).length = z.length - 1 := by
  show (((z.cps.toList.drop (HT.sIx z.length 0 (some 1))).take (HT.sIx z.length z.length none - HT.sIx z.length 0 (some 1))).toArray).size = _
  have e1 : HT.sIx z.length 0 (some 1) = 1 := by
    have := HT.sIx_nat z.length 0 1
    rw [show ((1 : Nat) : Int) = 1 from rfl] at this
    rw [this]; omega
  have e2 : HT.sIx z.length z.length none = z.length := rfl
  have e3 : z.length = z.cps.size := rfl
  rw [e1, e2, List.size_toArray, List.length_take, List.length_drop, Array.length_toList]
  omega
def frE (n : Nat) : Ent := [.inr "gift", .inl (n : Int), .inl 0, .inr "abcdefgh", .inl (n : Int)]
theorem fr_ok (n : Nat) : EnOk (frE n) := en_ok (r := [.inr "abcdefgh", .inl (n : Int)]) rfl (by decide +kernel) (fun s hs => by simp at hs; rw [hs]; decide +kernel)
theorem fr_inj {a b : Nat} (h : frE a = frE b) : a = b := by
  unfold frE at h
  injection h with _ h
  injection h with h _
  exact Int.ofNat.inj (Sum.inl.inj h)
theorem cut8 {ws : List Str} (h : ws.length = 8) : (cutA ws none (some 2)).length = 2 ∧ (cutA ws (some 2) (some 4)).length = 2 ∧ (cutA ws (some 4) (some 6)).length = 2 ∧ (cutA ws (some 6) none).length = 2 := by
  match ws, h with
  | [_, _, _, _, _, _, _, _], _ => exact ⟨rfl, rfl, rfl, rfl⟩
theorem iOf_i {i : Int} {R : Option Int → Prop} : iOf R (.int i) = R (some i) := rfl
theorem seq_cut3 {a b c r : FS} {E : DEnds} {ρ : Env} (P : Env → Prop) (h1 : ∀ N : Env → Prop, (∀ ρ, P ρ → N ρ) → gSeq a (gSeq b c) { E with nx := N } ρ) (h2 : ∀ ρ, P ρ → r E ρ) : gSeq a (gSeq b (gSeq c r)) E ρ := h1 _ h2
def memB (r : List Ent) (x : Ent) : Bool := r.any fun y => decide (y = x)
theorem memB_iff {r : List Ent} {x : Ent} : memB r x = true ↔ x ∈ r := by
  unfold memB
  rw [List.any_eq_true]
  exact ⟨fun ⟨y, hy, e⟩ => of_decide_eq_true e ▸ hy, fun h => ⟨x, h, decide_eq_true rfl⟩⟩
theorem gInE {n : Bool} {r : List Ent} {x : Ent} {R : D → Prop} (hx : EnOk x) (ok : ∀ e ∈ r, EnOk e) (q : R (.bl (n ^^ memB r x))) : gInD n (enD x) (.lst (r.map enD)) R := by
  refine gInD_go (α := Ent) (ι := enD) (x := x) enD_inj pn_en (ok_en (n := 62) hx.so) (fun y hy => ok_en (n := 62) (ok y hy).so) ?_
  have e : ∀ i : Decidable (x ∈ r), @decide _ i = memB r x := fun i => by
    have h1 := dec_iff i
    have h2 := memB_iff (r := r) (x := x)
    have h3 := h1.trans h2.symm
    revert h3
    cases @decide _ i <;> cases memB r x <;> simp
  rw [e]
  exact q
theorem app_ok {r q : List Ent} (h1 : ∀ e ∈ r, EnOk e) (h2 : ∀ e ∈ q, EnOk e) : ∀ e ∈ r ++ q, EnOk e := fun e he => (List.mem_append.mp he).elim (h1 e) (h2 e)
theorem one_ok {x : Ent} (h : EnOk x) : ∀ e ∈ [x], EnOk e := fun e he => by rw [List.mem_singleton.mp he]; exact h
theorem snoc_nd {r : List Ent} {x : Ent} (nd : r.Nodup) (h : x ∉ r) : (r ++ [x]).Nodup := List.nodup_append.mpr ⟨nd, List.pairwise_singleton _ _, fun a ha c hc e => by rw [List.mem_singleton.mp hc] at e; exact h (e ▸ ha)⟩
theorem ordE_nil : ordE [] = [] := List.eq_nil_of_length_eq_zero (Nat.le_zero.mp (ordE_len []))
theorem compD_pickS {Z : Type} {ι : Z → D} {xs : List Z} {t : D → Env → Option Env} {fc : FT} {fe : FE} {ρ : Env} {R : D → Prop} (P : Z → Prop) (g : Z → D) (hs : ∀ x ∈ xs, ∃ ρ', t (ι x) ρ = some ρ' ∧ (∀ N : Bool → Prop, N false → (P x → N true) → fc ρ' N) ∧ (P x → ∀ N : D → Prop, N (g x) → fe ρ' N)) (hl : xs.length ≤ sizeLine)
    (hR : ∀ as : List Z, as.Sublist xs → (∀ y ∈ as, P y) → R (.lst (as.map g))) : compD t fc fe ρ (xs.map ι) [] R := by
  have key : ∀ (r dn as : List Z), dn ++ r = xs → as.Sublist dn → (∀ y ∈ as, P y) → compD t fc fe ρ (r.map ι) (as.map g) R := by
    intro r
    induction r with
    | nil => exact fun dn as e h1 h2 => hR as (by rw [List.append_nil] at e; rw [← e]; exact h1) h2
    | cons x r ih =>
      intro dn as e0 h1 h2
      have hx : x ∈ xs := by rw [← e0]; simp
      have hlen := h1.length_le
      have htot := congrArg List.length e0
      rw [List.length_append, List.length_cons] at htot
      obtain ⟨ρ', e, hc, hf⟩ := hs x hx
      refine ⟨ρ', e, hc _ ?_ fun hp => ?_⟩
      · rw [if_neg (by simp)]
        exact ih (dn ++ [x]) as (by rw [← e0]; simp) (h1.trans (List.sublist_append_left _ _)) h2
      · rw [if_pos rfl]
        refine hf hp _ ⟨by rw [List.length_map]; omega, ?_⟩
        have := ih (dn ++ [x]) (as ++ [x]) (by rw [← e0]; simp) (h1.append (List.Sublist.refl _)) fun y hy => by
          rcases List.mem_append.mp hy with z | z
          · exact h2 y z
          · rw [List.mem_singleton.mp z]; exact hp
        rw [List.map_append] at this
        exact this
  exact key xs [] [] rfl (List.Sublist.refl _) fun y hy => nomatch hy
theorem flat_bk (C : Addr) (r : List Ent) : flatN 2 (bkD C r) = true := by
  show ((r.map enD).all (flatN 0) && true) = true
  rw [Bool.and_true, List.all_eq_true]
  intro d hd
  obtain ⟨e, _, rfl⟩ := List.mem_map.mp hd
  exact flat_en e
theorem tell_take {l : List Ent} {n : Nat} (ok : ∀ e ∈ l, EnOk e) (h : n < l.length) : ordE (ordE (l.take n) ++ [l[n]]) = ordE (l.take (n + 1)) :=
  ordE_congr (fun e he => ok e (List.mem_of_mem_take he)) fun e => by
    rw [List.take_succ_eq_append_getElem h, List.mem_append, List.mem_append, ordE_mem]
theorem take_past {α : Type} {l : List α} {n : Nat} (h : ¬ n < l.length) : l.take (n + 1) = l.take n := by
  rw [List.take_of_length_le (by omega), List.take_of_length_le (by omega)]
theorem range_at {dn ks : List Nat} {k m : Nat} (h : dn ++ k :: ks = List.range' 0 m) : k = dn.length ∧ k < m := by
  have h1 : (List.range' 0 m)[dn.length]? = some k := by rw [← h, List.getElem?_append_right (Nat.le_refl _), Nat.sub_self]; rfl
  obtain ⟨h2, h3⟩ := List.getElem?_eq_some_iff.mp h1
  rw [List.getElem_range'] at h3
  rw [List.length_range'] at h2
  omega

def w_law_name : BSpec := fun B ds R => ∃ (b : Addr) (taken : List Str), B.head? = some b ∧ ds = [.raw (.ref b), .lst (taken.map .str)] ∧ ∀ s : Str, strOk s = true → (s.length ≤ 8 ∧ s ≠ "") → R (.str s)
def w_law_names : BSpec := fun B ds R => ∃ (b : Addr) (n : Nat), B.head? = some b ∧ ds = [.raw (.ref b), natD n] ∧ n ≤ 100 ∧ ∀ ss : List Str, ss.length = n → (∀ s ∈ ss, strOk s = true ∧ s.length ≤ 8 ∧ s ≠ "") → R (.lst (ss.map .str))
def w_in_order (de : Addr) : BSpec := fun B ds R => ∃ (d : D) (es : List Ent), ds = [d] ∧ (isSeq d (es.map enD) ∨ (d = .raw (.ref de) ∧ es = [])) ∧ (∀ e ∈ es, EnOk e) ∧ es.length ≤ 400 ∧ R (.lst ((ordE es).map enD))
def w_Book___len (C : Addr) : BSpec := fun B ds R => ∃ (r : List Ent), ds = [bkD C r] ∧ R (natD r.length)
def w_Book___contains (C : Addr) : BSpec := fun B ds R => ∃ (r : List Ent) (x : Ent), ds = [bkD C r, enD x] ∧ (∀ e ∈ r, EnOk e) ∧ EnOk x ∧ ∀ b : Bool, (b = true ↔ x ∈ r) → R (.bl b)
def w_Book_init (C de : Addr) : FSpecM := fun s ds R => ∃ (d : D) (es : List Ent), s = .obj C [] ∧ ds = [d] ∧ (isSeq d (es.map enD) ∨ (d = .raw (.ref de) ∧ es = [])) ∧ (∀ e ∈ es, EnOk e) ∧ es.length ≤ 400 ∧ R .non (bkD C (ordE es))
def w_Book_tell (C : Addr) : FSpecM := fun s ds R => ∃ (r : List Ent) (x : Ent), s = bkD C r ∧ ds = [enD x] ∧ (∀ e ∈ r, EnOk e) ∧ EnOk x ∧ r.length ≤ 300 ∧ R .non (bkD C (ordE (r ++ [x])))
def w_Book___or (C de : Addr) : BSpec := fun B ds R => ∃ (r q : List Ent), ds = [bkD C r, bkD C q] ∧ (∀ e ∈ r, EnOk e) ∧ (∀ e ∈ q, EnOk e) ∧ r.length + q.length ≤ 400 ∧ R (bkD C (ordE (r ++ q)))
def w_Book_until (C de : Addr) : BSpec := fun B ds R => ∃ (r : List Ent) (t : Int), ds = [bkD C r, .int t] ∧ (∀ e ∈ r, EnOk e) ∧ r.length ≤ 400 ∧ R (bkD C (ordE (r.filter fun e => decide (day e ≤ t))))
def w_Book___eq (C : Addr) : BSpec := fun B ds R => ∃ (r : List Ent) (o : D), ds = [bkD C r, o] ∧ (∀ e ∈ r, EnOk e) ∧ r.length ≤ 400 ∧ ((∃ q, o = bkD C q ∧ (∀ e ∈ q, EnOk e) ∧ R (.bl (decide (r = q)))) ∨ (strgD o ∧ clsB C o = some false ∧ R (.bl false)))
def w_Book___ne (C : Addr) : BSpec := fun B ds R => ∃ (r : List Ent) (o : D), ds = [bkD C r, o] ∧ (∀ e ∈ r, EnOk e) ∧ r.length ≤ 400 ∧ ((∃ q, o = bkD C q ∧ (∀ e ∈ q, EnOk e) ∧ R (.bl (!decide (r = q)))) ∨ (strgD o ∧ clsB C o = some false ∧ R (.bl true)))
def w_law_entry : BSpec := fun B ds R => ∃ (b : Addr) (i y tp : Nat) (st at_ pu fu : List Str), B.head? = some b ∧ ds = [.raw (.ref b), natD i, natD y, .lst (st.map .str), .lst (at_.map .str), .lst (pu.map .str), .lst (fu.map .str), natD tp] ∧ (1 ≤ i ∧ i ≤ 999999) ∧ (1 ≤ y ∧ y ≤ 100) ∧ tp ≤ 1000000000 ∧ (0 < st.length ∧ st.length ≤ 8) ∧ (0 < at_.length ∧ at_.length ≤ 8) ∧ (0 < pu.length ∧ pu.length ≤ 8) ∧ (0 < fu.length ∧ fu.length ≤ 8) ∧ (∀ s, s ∈ st ++ at_ ++ pu ++ fu → strOk s = true ∧ s.length ≤ 1000) ∧ ∀ e, EnOk e → day e ≤ 9999 → R (enD e)
def w_law_drawn : BSpec := fun B ds R => ∃ (b : Addr) (n i y tp : Nat) (ws : List Str), B.head? = some b ∧ ds = [.raw (.ref b), natD n, natD i, natD y, .lst (ws.map .str), natD tp] ∧ n ≤ 72 ∧ (1 ≤ i ∧ i ≤ 999999) ∧ (1 ≤ y ∧ y ≤ 100) ∧ tp ≤ 1000000000 ∧ ws.length = 8 ∧ (∀ s ∈ ws, strOk s = true ∧ s.length ≤ 1000) ∧ ∀ r : List Ent, (∀ e ∈ r, EnOk e ∧ day e ≤ 9999) → r.Nodup → r.length ≤ n → R (.lst (r.map enD))
def w_law_mixed : BSpec := fun B ds R => ∃ (b : Addr) (r : List Ent), B.head? = some b ∧ ds = [.raw (.ref b), .lst (r.map enD)] ∧ r.length ≤ 300 ∧ ∀ q : List Ent, q.Perm r → R (.lst (q.map enD))
def w_law_fresh : BSpec := fun B ds R => ∃ (r : List Ent), ds = [.lst (r.map enD)] ∧ (∀ e ∈ r, EnOk e) ∧ r.length ≤ 190 ∧ ∀ e, EnOk e → e ∉ r → R (enD e)
def w_law_order : BSpec := fun B ds R => ∃ (r : List Ent), ds = [.lst (r.map enD)] ∧ (∀ e ∈ r, EnOk e) ∧ r.Nodup ∧ r.length ≤ 300 ∧ R (.lst ((ordE r).map enD))
def w_law_same : BSpec := fun B ds R => ∃ (x : Ent), ds = [enD x, enD x] ∧ EnOk x ∧ R (.bl true)
def w_law_has_just (C : Addr) : BSpec := fun B ds R => ∃ (r : List Ent), ds = [bkD C r, .lst (r.map enD)] ∧ (∀ e ∈ r, EnOk e) ∧ r.length ≤ 400 ∧ R (.bl true)
def w_law_alike (C : Addr) : BSpec := fun B ds R => ∃ (r : List Ent), ds = [bkD C r, bkD C r] ∧ (∀ e ∈ r, EnOk e) ∧ r.length ≤ 400 ∧ R (.bl true)
def w_law_apart (C : Addr) : BSpec := fun B ds R => ∃ (r : List Ent) (o : D), ds = [bkD C r, o] ∧ (∀ e ∈ r, EnOk e) ∧ r.length ≤ 400 ∧ ((∃ q, o = bkD C q ∧ (∀ e ∈ q, EnOk e) ∧ q.length ≤ 400 ∧ r ≠ q) ∨ (strgD o ∧ clsB C o = some false)) ∧ R (.bl true)
def w_law_changed : BSpec := fun B ds R => ∃ (x : Ent) (k : Nat), ds = [enD x, natD k] ∧ EnOk x ∧ k < x.length ∧ (k = 0 → ∃ n r, x = .inr "aid" :: n :: r ∨ x = .inr "gift" :: n :: r) ∧ ∀ y, EnOk y → y ≠ x → R (enD y)
def w_law_near : BSpec := fun B ds R => ∃ (x : Ent), ds = [enD x] ∧ EnOk x ∧ ∀ q : List Ent, (∀ y ∈ q, EnOk y ∧ y ≠ x) → q.length ≤ 6 → R (.lst (q.map enD))
def w_law_members (C : Addr) : BSpec := fun B ds R => ∃ (b : Addr) (r : List Ent), B.head? = some b ∧ ds = [.raw (.ref b), bkD C r, .lst (r.map enD)] ∧ (∀ e ∈ r, EnOk e) ∧ r.length ≤ 300 ∧ R (.bl true)
def w_law_compared (C de : Addr) : BSpec := fun B ds R => ∃ (b : Addr) (r : List Ent), B.head? = some b ∧ ds = [.raw (.ref b), bkD C r, .lst (r.map enD)] ∧ (∀ e ∈ r, EnOk e) ∧ r.Nodup ∧ ordE r = r ∧ r.length ≤ 72 ∧ R (.bl true)
def w_law_joined (C de : Addr) : BSpec := fun B ds R => ∃ (r q : List Ent), ds = [bkD C r, .lst (r.map enD), bkD C q, .lst (q.map enD)] ∧ (∀ e ∈ r, EnOk e) ∧ (∀ e ∈ q, EnOk e) ∧ r.Nodup ∧ q.Nodup ∧ ordE r = r ∧ ordE q = q ∧ r.length + q.length ≤ 150 ∧ R (.bl true)
def w_law_cut (C de : Addr) : BSpec := fun B ds R => ∃ (b : Addr) (r : List Ent), B.head? = some b ∧ ds = [.raw (.ref b), bkD C r, .lst (r.map enD)] ∧ (∀ e ∈ r, EnOk e) ∧ r.Nodup ∧ ordE r = r ∧ r.length ≤ 72 ∧ R (.bl true)
end GK

namespace GK
open PySem PySem.Spec PyProof.Rows L2
local macro_rules | `(tactic| and_intros) => `(tactic| try simp only [ownLst, ownObj, mTake, mOf, fAndV, fOrV, fArgs, fCons, fNil, fVar_0, fVar_s, fUn, fBin, fBool, startE, envOf, slot, gSeq, frzE, gComp, gCompD, wipe_nil, wipe_cons, List.map_cons, List.map_nil, List.cons_append, List.nil_append, List.append_nil, true_and, and_true, List.set_cons_zero, List.set_cons_succ, List.length_cons, List.length_nil, List.replicate_succ, List.replicate_zero, Nat.reduceSub, Nat.reduceAdd, Nat.reduceLT, DEnds.fn, bOf_bl, eq_self, reduceIte, Bool.false_eq_true, gNotV_bl, Bool.not_true, Bool.not_false, g2I_int, g2I0_int, g1I_int, gLen_lst, gLen_tup, gInt_int, gMax2_int, gMin2_int, gIsN_non, gIsN_obj, gIsN_dT, gIsN_dK, gIsN_int, xsOf_lst, tsOf_tup, gIx_t0, gIx_t1, gIx_l0, gIx_l1, gIx_l2, gEqA_int, gEqA_str, gEqA_bl, gTup, gLst, Option.isSome_some, Bool.false_xor, Bool.true_xor, gFor, gNegI, gEqA_no, gIsN_lst, gIsN_tup, gIx_t2, Bool.not_not, dnE, dnL, decide_true, decide_false, gListL_lst, gTupL_lst, gListU_lst, gListU_tup, Bool.xor_false, Bool.not_false, Bool.not_true, Option.isSome_none, gIntB_bl, isi_int_int, isi_str_int, isi_str_str, isi_int_str, isi_int_bl, isi_tup_tup, iOf_i, gIx_t0, gIx_t1])
section
variable {P : Program} {w : World} {K : PySem.W.Frag} {mg : Str → Option Value} {base : Heap}
abbrev s_Book___iter : Stmt := inClass (topS 2) 8
theorem sc_Book___iter : FnScope ["self"] ["self"] (defScope s_Book___iter) := ⟨rfl, rfl, rfl, by decide +kernel, rfl, by decide +kernel, by decide +kernel⟩
theorem ok_Book___iter {f C_Book : Addr} {fd : FuncData} (F : Fun K "__iter__" "Book.__iter__" s_Book___iter f fd) (T : Bi mg) (K_Book : KBook K C_Book) : FnN P w K mg base 1 f fd ["self"] (spItL K C_Book "_rows") := by
  refine fnN_of F sc_Book___iter (fun n vs H Q E ⟨a, _, _, _, _, e, _⟩ => by rw [e]; rfl) fun cdv A1 fr z H vs Q E hr ⟨a, dx, fs, l, zs, e, ha, hl, hq, k⟩ => ?_
  subst e
  refine ⟨_, pss_one (ps_ret (pe_callB ItX.call_iterN (by rfl) T.iter_ (by decide +kernel) (pa_cons (pe_fld (pv 0) rfl) pa_nil))), ?_⟩
  exact ⟨.ref a, rfl, a, C_Book, dx, fs, .ref l, rfl, ha, K_Book.cl, K_Book.n__rows, hl, l, zs, rfl, hq, k⟩
abbrev s_law_name : Stmt := topS 6
theorem sc_law_name : FnScope ["bag", "taken", "letters", "size", "word", "at", "k"] ["bag", "taken"] (defScope s_law_name) := ⟨rfl, rfl, rfl, by decide +kernel, rfl, by decide +kernel, by decide +kernel⟩
theorem ok_law_name {f : Addr} {fd : FuncData} (F : Fun K "_law_name" "_law_name" s_law_name f fd) (T : Bi mg) (c_law_draw : Cal P w K mg base "_law_draw" 1 ["bag", "size"] (.own 0) [] wDraw) : FnOk P w K mg base CX0 2 f fd ["bag", "taken"] (spD K (.own 0) w_law_name) := by
  refine Fun_okD F sc_law_name (fun _ _ _ h => by obtain ⟨_, _, _, e, _⟩ := h; rw [e]; rfl) fun B cdv A outer s H E hr => ⟨_, (ds_cons (ds_setM 2 0 sc_law_name.nd rfl (by first | exact Or.inl rfl | exact Or.inr rfl) (by decide) (dm_of (de_str (m := .own 0))))
(ds_cons (ds_setM 3 0 sc_law_name.nd rfl (by first | exact Or.inl rfl | exact Or.inr rfl) (by decide) (dm_of (de_add (m := .own 0) (de_int (m := .rd)) (de_C c_law_draw hr (da_cons (m := .own 0) (de_v 0) (da_cons (m := .own 0) (de_int (m := .own 0)) da_nil))))))
(ds_cons (ds_setM 4 0 sc_law_name.nd rfl (by first | exact Or.inl rfl | exact Or.inr rfl) (by decide) (dm_of (de_repS (m := .own 0) (de_atS (m := .rd) (de_v 2) (de_C c_law_draw hr (da_cons (m := .own 0) (de_v 0) (da_cons (m := .own 0) (de_int (m := .own 0)) da_nil)))) (de_v 3))))
(ds_cons (ds_setM 5 0 sc_law_name.nd rfl (by first | exact Or.inl rfl | exact Or.inr rfl) (by decide) (dm_of (de_C c_law_draw hr (da_cons (m := .own 0) (de_v 0) (da_cons (m := .own 0) (de_v 3) da_nil)))))
(ds_cons (ds_setM 4 0 sc_law_name.nd rfl (by first | exact Or.inl rfl | exact Or.inr rfl) (by decide) (dm_of (de_catS (m := .own 0) (de_catS (m := .rd) (de_slS (m := .rd) (de_v 4) do_none (do_some (de_v 5))) (de_atS (m := .rd) (de_v 2) (de_C c_law_draw hr (da_cons (m := .own 0) (de_v 0) (da_cons (m := .own 0) (de_int (m := .own 0)) da_nil))))) (de_slS (m := .rd) (de_v 4) (do_some (de_add (m := .rd) (de_v 5) (de_int (m := .rd)))) do_none))))
(ds_cons (ds_for PassesOwn.never rfl (di_range T.range_ (de_int (m := .rd))) (dg_name 6 sc_law_name.nd rfl (by first | exact Or.inl rfl | exact Or.inr rfl) (by decide))
(ds_cons (ds_if (dt_bool (dw_and (dt_notin (de_v 4) (de_v 1)) (dw_and1 (dt_notin (de_v 4) (de_frz (de_lst 0 (da_cons (m := .own 0) (de_str (m := .own 0)) (da_cons (m := .own 0) (de_str (m := .own 0)) (da_cons (m := .own 0) (de_str (m := .own 0)) (da_cons (m := .own 0) (de_str (m := .own 0)) (da_cons (m := .own 0) (de_str (m := .own 0)) da_nil)))))))))))
(ds_one (ds_retM (dm_of (de_v 4))))
ds_nil)
(ds_cons (ds_setM 5 0 sc_law_name.nd rfl (by first | exact Or.inl rfl | exact Or.inr rfl) (by decide) (dm_of (de_mod (m := .own 0) (de_int' (m := .rd) T.int_ (de_v 6)) (de_v 3))))
(ds_one (ds_setM 4 0 sc_law_name.nd rfl (by first | exact Or.inl rfl | exact Or.inr rfl) (by decide) (dm_of (de_catS (m := .own 0) (de_catS (m := .rd) (de_slS (m := .rd) (de_v 4) do_none (do_some (de_v 5))) (de_atS (m := .rd) (de_v 2) (de_mod (m := .rd) (de_int' (m := .rd) T.int_ (de_add (m := .rd) (de_find (m := .rd) (de_v 2) (de_atS (m := .rd) (de_v 4) (de_v 5))) (de_int (m := .rd)))) (de_int (m := .rd))))) (de_slS (m := .rd) (de_v 4) (do_some (de_add (m := .rd) (de_v 5) (de_int (m := .rd)))) do_none))))))))
(ds_one (ds_retM (dm_of (de_v 4)))))))))), fun ds R ⟨b, taken, hb, e, hR⟩ => ?_⟩
  subst e
  and_intros
  refine draw_go hb (by decide) (by decide) fun r0 h0 h1 => ?_
  and_intros
  refine draw_go hb (by decide) (by decide) fun r1 h2 h3 => ?_
  and_intros
  refine letter_go h2 h3 fun z hz hz1 => ?_
  and_intros
  have hs : (1 + r0).toNat * z.length ≤ 8 := by rw [hz1]; omega
  refine ⟨by omega, by omega, by rw [szL]; omega, ?_⟩
  have hw0 : (repS z (1 + r0)).length = (1 + r0).toNat := by rw [repS_len, hz1]; omega
  have ok0 := strOk_rep (n := 1 + r0) hz
  generalize repS z (1 + r0) = w0 at hw0 ok0
  refine draw_go hb (by omega) (by omega) fun at0 h4 h5 => ?_
  and_intros
  refine ⟨by rw [szL]; omega, ?_⟩
  refine draw_go hb (by decide) (by decide) fun r2 h6 h7 => ?_
  and_intros
  refine letter_go h6 h7 fun y hy hy1 => ?_
  and_intros
  have a1 : (cutS w0 none (some at0)).length = at0.toNat := cut_to h4 (by omega)
  have a2 : (cutS w0 (some (at0 + 1)) none).length = w0.length - (at0 + 1).toNat := cut_from (by omega) (by omega)
  have an := anew ok0 hy hw0 hy1 h4 (by omega)
  refine ⟨by rw [szL]; omega, by rw [szL]; omega, by rw [szL, len_cat]; omega, by decide, by decide, ?_⟩
  dsimp only
  refine forD_go (fun xs ρ => ∃ (w : Str) (a k : Option (Nat × D)) (js : List Nat), xs = js.map (fun j : Nat => D.int (0 + (j : Int))) ∧ strOk w = true ∧ w.length = (1 + r0).toNat ∧ ρ = [some (0, .raw (.ref b)), some (0, .lst (taken.map .str)), some (0, .str abc), some (0, .int (1 + r0)), some (0, .str w), a, k]) ?_ ?_ _ _ ⟨_, _, _, List.range 200, rfl, an.1, an.2, rfl⟩
  · rintro x r ρ ⟨w, a, k, js, ex, okw, lw, rfl⟩ N hN
    cases js with
    | nil => cases ex
    | cons j js =>
      rw [List.map_cons] at ex
      injection ex with ex1 ex2
      subst ex1
      refine ⟨_, rfl, ?_⟩
      and_intros
      refine ⟨_, rfl, rfl, all_str taken, ?_⟩
      and_intros
      have step : ∀ M : Env → Prop, (∀ ρ2, (∃ (w : Str) (a k : Option (Nat × D)) (js : List Nat), r = js.map (fun j : Nat => D.int (0 + (j : Int))) ∧ strOk w = true ∧ w.length = (1 + r0).toNat ∧ ρ2 = [some (0, .raw (.ref b)), some (0, .lst (taken.map .str)), some (0, .str abc), some (0, .int (1 + r0)), some (0, .str w), a, k]) → M ρ2) → True := fun _ _ => trivial
      have m0 : 0 ≤ (0 + (j : Int)) % (1 + r0) := Int.emod_nonneg _ (by omega)
      have m1 : (0 + (j : Int)) % (1 + r0) < 1 + r0 := Int.emod_lt_of_pos _ (by omega)
      have b1 : (cutS w none (some ((0 + (j : Int)) % (1 + r0)))).length = ((0 + (j : Int)) % (1 + r0)).toNat := cut_to m0 (by omega)
      have b2 : (cutS w (some ((0 + (j : Int)) % (1 + r0) + 1)) none).length = w.length - ((0 + (j : Int)) % (1 + r0) + 1).toNat := cut_from (by omega) (by omega)
      cases hin : (taken.map D.str).any fun z => eqF z (.str w) with
      | false =>
        and_intros
        refine ⟨by decide, _, rfl, rfl, rfl, ?_⟩
        and_intros
        cases hin2 : ([D.str "and", D.str "or", D.str "lacks", D.str "any", D.str "none"] : List D).any fun z => eqF z (.str w) with
        | false =>
          and_intros
          exact hR w okw ⟨by omega, fun z => by rw [z] at lw; have : ("" : Str).length = 0 := rfl; omega⟩
        | true =>
          and_intros
          refine ⟨by omega, by rw [szL]; omega, trivial, sign_go (by omega) m0 (by omega) fun y => ?_⟩
          and_intros
          refine ⟨by show (0 : Int) < 26; decide, letter_go (Int.emod_nonneg _ (by decide)) (Int.emod_lt_of_pos _ (by decide)) fun v hv hv1 => ?_⟩
          and_intros
          have an2 := anew okw hv lw hv1 m0 (by omega)
          exact ⟨by rw [szL]; omega, by rw [szL]; omega, by rw [szL, len_cat]; omega, hN _ ⟨_, _, _, js, ex2, an2.1, an2.2, rfl⟩⟩
      | true =>
        and_intros
        refine ⟨by omega, by rw [szL]; omega, trivial, sign_go (by omega) m0 (by omega) fun y => ?_⟩
        and_intros
        refine ⟨by show (0 : Int) < 26; decide, letter_go (Int.emod_nonneg _ (by decide)) (Int.emod_lt_of_pos _ (by decide)) fun v hv hv1 => ?_⟩
        and_intros
        have an2 := anew okw hv lw hv1 m0 (by omega)
        exact ⟨by rw [szL]; omega, by rw [szL]; omega, by rw [szL, len_cat]; omega, hN _ ⟨_, _, _, js, ex2, an2.1, an2.2, rfl⟩⟩
  · rintro ρ ⟨w, a, k, js, ex, okw, lw, rfl⟩
    and_intros
    exact hR w okw ⟨by omega, fun z => by rw [z] at lw; have : ("" : Str).length = 0 := rfl; omega⟩
abbrev s_law_names : Stmt := topS 7
theorem sc_law_names : FnScope ["bag", "count", "names", "k"] ["bag", "count"] (defScope s_law_names) := ⟨rfl, rfl, rfl, by decide +kernel, rfl, by decide +kernel, by decide +kernel⟩
theorem ok_law_names {f : Addr} {fd : FuncData} (F : Fun K "_law_names" "_law_names" s_law_names f fd) (T : Bi mg) (c_law_name : Cal P w K mg base "_law_name" 2 ["bag", "taken"] (.own 0) [] w_law_name) : FnOk P w K mg base CX0 3 f fd ["bag", "count"] (spD K (.own 0) w_law_names) := by
  refine Fun_okD F sc_law_names (fun _ _ _ h => by obtain ⟨_, _, _, e, _, _⟩ := h; rw [e]; rfl) fun B cdv A outer s H E hr => ⟨_, (ds_cons (ds_setM 2 1 sc_law_names.nd rfl (by first | exact Or.inl rfl | exact Or.inr rfl) (by decide) (dm_of (de_lst 0 da_nil)))
(ds_cons (ds_for PassesOwn.never rfl (di_range T.range_ (de_v 1)) (dg_name 3 sc_law_names.nd rfl (by first | exact Or.inl rfl | exact Or.inr rfl) (by decide))
(ds_one (ds_exprM (m := .own 0) (dm_append 2 0 (dm_of (de_CR (n := 0) c_law_name hr (da_cons (m := .rd) (de_rd (de_v 0)) (da_cons (m := .rd) (de_rd (de_var 2 1)) da_nil))))))))
(ds_one (ds_frz 2 (ds_retM (dm_of (de_v 2))))))), fun ds R ⟨b, n, hb, e, hn, hR⟩ => ?_⟩
  subst e
  and_intros
  refine ⟨by decide, rng_go (by omega) ?_⟩
  refine forD_go (fun xs ρ => ∃ (js : List Nat) (ss : List Str) (k : Option (Nat × D)), xs = js.map natD ∧ ss.length + js.length = n ∧ (∀ s ∈ ss, strOk s = true ∧ s.length ≤ 8 ∧ s ≠ "") ∧ ρ = [some (0, .raw (.ref b)), some (0, natD n), some (1, .lst (ss.map .str)), k]) ?_ ?_ _ _ ⟨List.range' 0 n, [], none, rfl, by rw [List.length_range']; simp, fun s h => (by cases h), rfl⟩
  · rintro x r ρ ⟨js, ss, k, ex, hl, ok, rfl⟩ N hN
    cases js with
    | nil => cases ex
    | cons j js =>
      rw [List.map_cons] at ex
      injection ex with ex1 ex2
      subst ex1
      rw [List.length_cons] at hl
      refine ⟨_, rfl, ?_⟩
      and_intros
      refine ⟨b, ss, hb, rfl, fun s hs h0 => ⟨rfl, ?_⟩⟩
      and_intros
      refine ⟨by rw [List.length_map, szL]; omega, hN _ ⟨js, ss ++ [s], _, ex2, by rw [List.length_append, List.length_singleton]; omega, fun y hy => ?_, by rw [List.map_append]; rfl⟩⟩
      rcases List.mem_append.mp hy with z | z
      · exact ok y z
      · rw [List.mem_singleton.mp z]; exact ⟨hs, h0⟩
  · rintro ρ ⟨js, ss, k, ex, hl, ok, rfl⟩
    cases js with
    | cons j js => cases ex
    | nil =>
      and_intros
      exact hR ss hl ok
abbrev s_in_order : Stmt := topS 1
theorem sc_in_order : FnScope ["entries", "known", "entry", "row"] ["entries"] (defScope s_in_order) := ⟨rfl, rfl, rfl, by decide +kernel, rfl, by decide +kernel, by decide +kernel⟩
theorem ok_in_order {f : Addr} {fd : FuncData} {de_Book___init_0 : Addr} (F : Fun K "in_order" "in_order" s_in_order f fd) (T : Bi mg) (E0_Book___init_0 : EmpT K de_Book___init_0) : FnOk P w K mg base CX0 1 f fd ["entries"] (spD K (.own 1) (w_in_order de_Book___init_0)) := by
  refine Fun_okD F sc_in_order (fun _ _ _ h => by obtain ⟨_, _, e, _, _, _, _⟩ := h; rw [e]; rfl) fun B cdv A outer s H E hr => ⟨_, (ds_cons (ds_setM 1 1 sc_in_order.nd rfl (by first | exact Or.inl rfl | exact Or.inr rfl) (by decide) (dm_of (de_dnewT 0)))
(ds_cons (ds_for PassesOwn.never rfl (di_seqE E0_Book___init_0 (de_v 0)) (dg_name 2 sc_in_order.nd rfl (by first | exact Or.inl rfl | exact Or.inr rfl) (by decide))
(ds_one (ds_putT 1 (hr.u 1) (dm_of (de_bl (m := .own 0))) (de_v 2))))
(ds_one (ds_frz 1 (ds_retM (dm_of (de_lc (own := [("row", 3)]) 0 rfl sc_in_order.nd (di_list (de_frz (de_sortedM (hr.u 67) T.sorted_ (de_frz (de_lcK (own := [("entry", 2)]) 0 rfl sc_in_order.nd (de_v 1) (blk_of ["entries", "known", "entry", "row"] (defScope s_in_order) rfl (by decide +kernel) (by decide +kernel) (by decide +kernel) (by decide +kernel)) (dgc_name 2 sc_in_order.nd rfl) (hol_cons rfl (fun _ _ => rfl) hol_nil) (fun _ _ _ _ _ => dts_nil) (fun _ _ _ _ _ => (de_tup (da_cons (m := .own 0) (de_at (de_v 2) (de_int (m := .rd))) (da_cons (m := .own 0) (de_v 2) da_nil))))))))) (blk_of ["entries", "known", "entry", "row"] (defScope s_in_order) rfl (by decide +kernel) (by decide +kernel) (by decide +kernel) (by decide +kernel)) (dgc_name 3 sc_in_order.nd rfl) (hol_cons rfl (fun _ _ => rfl) hol_nil) (fun _ _ _ _ _ => dts_nil) (fun _ _ _ _ _ => (de_at (de_v 3) (de_int (m := .rd))))))))))), fun ds R ⟨d, es, e, hs, ok, hl, hR⟩ => ?_⟩
  subst e
  and_intros
  have sq : ∀ {Q : List D → Prop}, Q (es.map enD) → seqOfE de_Book___init_0 Q d := fun {Q} q => by
    rcases hs with hs | ⟨rfl, rfl⟩
    · rcases hs with rfl | rfl <;> exact q
    · exact seqOfE_raw q
  refine sq ?_
  refine forD_pre (l := es) (ι := enD) (fun dn ks ρ => ∃ (p : Option (Nat × D)), ρ = [some (0, d), some (1, kT (knE dn)), p, none]) ⟨none, rfl⟩ ?_ ?_
  · rintro dn x ks ρ hd ⟨p, rfl⟩ N hN
    refine ⟨_, rfl, ?_⟩
    and_intros
    have hl2 := knE_len dn
    have hl3 := congrArg List.length hd
    rw [List.length_append, List.length_cons] at hl3
    refine ⟨⟨rfl, trivial⟩, x, keyT_en x, rfl, by rw [List.length_map, szL]; omega, ?_⟩
    rw [show ∀ m : List (Ent × Bool), putD (m.map (kvA (fun e => e) D.bl)) x (D.bl true) = (iA m x true).map (kvA (fun e => e) D.bl) from fun m => putD_A (q := fun e : Ent => e) (f := D.bl) fun _ _ e => e]
    exact hN _ ⟨some (0, enD x), by rw [knE_snoc]; rfl⟩
  · rintro ρ ⟨p, rfl⟩
    and_intros
    refine ⟨(ddE es).map enD, ?_, ?_⟩
    · show some (((knE es).map (kvA (fun e => e) D.bl)).map fun e => D.tup (e.1.map keyD)) = _
      unfold ddE
      rw [List.map_map, List.map_map]
      rfl
    have okd : ∀ e ∈ ddE es, EnOk e := fun e he => ok e ((ddE_mem es e).mp he)
    have hl2 := ddE_len es
    have hl3 := ordE_len es
    refine compD_all (xs := ddE es) (ι := enD) pairD (fun x hx => ⟨_, rfl, fun N hN => ?_⟩) (by rw [szL]; omega) ?_
    · and_intros
      refine num_ix (okd x hx) ?_
      and_intros
      exact ⟨by decide, hN⟩
    refine gSortC_pair okd ?_
    show compD (tgN 3) _ _ _ ((ordE es).map pairD) [] _
    refine compD_all (xs := ordE es) (ι := pairD) enD (fun x hx => ⟨_, rfl, fun N hN => ?_⟩) (by rw [szL]; omega) hR
    unfold pairD
    and_intros
    exact hN
abbrev s_Book___len : Stmt := inClass (topS 2) 7
theorem sc_Book___len : FnScope ["self"] ["self"] (defScope s_Book___len) := ⟨rfl, rfl, rfl, by decide +kernel, rfl, by decide +kernel, by decide +kernel⟩
theorem ok_Book___len {f : Addr} {fd : FuncData} {C_Book : Addr} (F : Fun K "__len__" "Book.__len__" s_Book___len f fd) (T : Bi mg) (K_Book : KBook K C_Book) : FnOk P w K mg base CX0 1 f fd ["self"] (spD K (.own 0) (w_Book___len C_Book)) := by
  refine Fun_okD F sc_Book___len (fun _ _ _ h => by obtain ⟨_, e, _⟩ := h; rw [e]; rfl) fun B cdv A outer s H E hr => ⟨_, (ds_one (ds_retM (dm_of (de_len (m := .own 0) T.len_ (de_fld (de_v 0) rfl K_Book.cl K_Book.n__rows))))), fun ds R ⟨r, e, hR⟩ => ?_⟩
  subst e
  and_intros
  refine fld_bk ?_
  and_intros
  rw [List.length_map]
  exact hR
abbrev s_Book___contains : Stmt := inClass (topS 2) 6
theorem sc_Book___contains : FnScope ["self", "entry"] ["self", "entry"] (defScope s_Book___contains) := ⟨rfl, rfl, rfl, by decide +kernel, rfl, by decide +kernel, by decide +kernel⟩
theorem ok_Book___contains {f : Addr} {fd : FuncData} {C_Book : Addr} (F : Fun K "__contains__" "Book.__contains__" s_Book___contains f fd) (T : Bi mg) (K_Book : KBook K C_Book) : FnOk P w K mg base CX0 1 f fd ["self", "entry"] (spD K (.own 0) (w_Book___contains C_Book)) := by
  refine Fun_okD F sc_Book___contains (fun _ _ _ h => by obtain ⟨_, _, e, _, _, _⟩ := h; rw [e]; rfl) fun B cdv A outer s H E hr => ⟨_, (ds_one (ds_retM (dm_of (de_inD (m := .own 0) (hr.u 65) (de_v 1) (de_fld (de_v 0) rfl K_Book.cl K_Book.n__rows))))), fun ds R ⟨r, x, e, ok, hx, hR⟩ => ?_⟩
  subst e
  and_intros
  refine fld_bk ?_
  refine gInD_go (α := Ent) (ι := enD) enD_inj pn_en (ok_en (n := 62) hx.so) (fun y hy => ok_en (n := 62) (ok y hy).so) ?_
  rw [Bool.false_xor]
  exact hR _ (dec_iff _)
abbrev s_Book___init : Stmt := inClass (topS 2) 0
theorem sc_Book___init : FnScope ["self", "entries"] ["self", "entries"] (defScope s_Book___init) := ⟨rfl, rfl, rfl, by decide +kernel, rfl, by decide +kernel, by decide +kernel⟩
theorem ok_Book___init {f : Addr} {fd : FuncData} {de_Book___init_0 : Addr} {C_Book : Addr} {dvs : List V} {kws : List (Str × V)} (F : FunD K "__init__" "Book.__init__" (defArgs s_Book___init) (defBody s_Book___init) (defScope s_Book___init) dvs kws f fd) (T : Bi mg) (K_Book : KBook K C_Book) (c_in_order : Cal P w K mg base "in_order" 1 ["entries"] (.own 1) [] (w_in_order de_Book___init_0)) : FnOk P w K mg base CX0 2 f fd ["self", "entries"] (spM K 2 (.own 0) (w_Book_init C_Book de_Book___init_0)) := by
  refine FunD_okM F sc_Book___init (fun _ _ _ h => by obtain ⟨_, _, _, h, _⟩ := h; rw [h]; rfl) fun B cdv A outer s H E hr => ⟨_, (ds_one (ds_fld 0 1 K_Book.cl K_Book.n__rows (dm_of (de_C c_in_order hr (da_cons (m := .own 0) (de_v 1) da_nil))))), fun s ds R ⟨d, es, e0, e, hs, ok, hl, hR⟩ => ?_⟩
  subst e0
  subst e
  and_intros
  exact ⟨d, es, rfl, hs, ok, hl, _, rfl, hR⟩
abbrev s_Book_tell : Stmt := inClass (topS 2) 1
theorem sc_Book_tell : FnScope ["self", "entry"] ["self", "entry"] (defScope s_Book_tell) := ⟨rfl, rfl, rfl, by decide +kernel, rfl, by decide +kernel, by decide +kernel⟩
theorem ok_Book_tell {f : Addr} {fd : FuncData} {de_Book___init_0 : Addr} {C_Book : Addr} (F : Fun K "tell" "Book.tell" s_Book_tell f fd) (T : Bi mg) (K_Book : KBook K C_Book) (c_in_order : Cal P w K mg base "in_order" 1 ["entries"] (.own 1) [] (w_in_order de_Book___init_0)) : FnOk P w K mg base CX0 2 f fd ["self", "entry"] (spM K 2 (.own 0) (w_Book_tell C_Book)) := by
  refine Fun_okM F sc_Book_tell (fun _ _ _ h => by obtain ⟨_, _, _, h, _⟩ := h; rw [h]; rfl) fun B cdv A outer s H E hr => ⟨_, (ds_one (ds_fld 0 1 K_Book.cl K_Book.n__rows (dm_of (de_C c_in_order hr (da_cons (m := .own 0) (de_frz (de_cat (de_fld (de_var 0 2) rfl K_Book.cl K_Book.n__rows) (de_frz (de_lst 0 (da_cons (m := .own 0) (de_v 1) da_nil))))) da_nil))))), fun s ds R ⟨r, x, e0, e, ok, hx, hl, hR⟩ => ?_⟩
  subst e0
  subst e
  and_intros
  refine fld_bk ?_
  refine ⟨by decide, gCat_go (f := enD) (a := r) (b := [x]) (by rw [szL, List.length_singleton]; omega) ?_⟩
  refine ⟨_, r ++ [x], rfl, .inl (.inl rfl), fun e he => ?_, by rw [List.length_append, List.length_singleton]; omega, ?_⟩
  · rcases List.mem_append.mp he with z | z
    · exact ok e z
    · rw [List.mem_singleton.mp z]; exact hx
  exact ⟨rfl, rfl, by show 1 < 1000; decide, _, rfl, hR⟩
abbrev s_Book___or : Stmt := inClass (topS 2) 5
theorem sc_Book___or : FnScope ["self", "other"] ["self", "other"] (defScope s_Book___or) := ⟨rfl, rfl, rfl, by decide +kernel, rfl, by decide +kernel, by decide +kernel⟩
theorem ok_Book___or {f : Addr} {fd : FuncData} {de_Book___init_0 : Addr} {C_Book : Addr} (F : Fun K "__or__" "Book.__or__" s_Book___or f fd) (T : Bi mg) (K_Book : KBook K C_Book) (c_Book : CalK P w K mg base "Book" C_Book 2 1 ["self", "entries"] (.own 0) [] (w_Book_init C_Book de_Book___init_0)) : FnOk P w K mg base CX0 4 f fd ["self", "other"] (spD K (.own 2) (w_Book___or C_Book de_Book___init_0)) := by
  refine Fun_okD F sc_Book___or (fun _ _ _ h => by obtain ⟨_, _, e, _, _, _, _⟩ := h; rw [e]; rfl) fun B cdv A outer s H E hr => ⟨_, (ds_one (ds_retM (dm_of (de_Ck c_Book hr (da_cons (m := .own 0) (de_frz (de_cat (de_fld (de_v 0) rfl K_Book.cl K_Book.n__rows) (de_fld (de_v 1) rfl K_Book.cl K_Book.n__rows))) da_nil))))), fun ds R ⟨r, q, e, o1, o2, hl, hR⟩ => ?_⟩
  subst e
  and_intros
  refine fld_bk (fld_bk ?_)
  refine gCat_go (by rw [szL]; omega) ?_
  refine ⟨_, r ++ q, rfl, rfl, .inl (.inl rfl), fun e he => (List.mem_append.mp he).elim (o1 e) (o2 e), by rw [List.length_append]; omega, rfl, hR⟩
abbrev s_Book_until : Stmt := inClass (topS 2) 2
theorem sc_Book_until : FnScope ["self", "day", "entry"] ["self", "day"] (defScope s_Book_until) := ⟨rfl, rfl, rfl, by decide +kernel, rfl, by decide +kernel, by decide +kernel⟩
theorem ok_Book_until {f : Addr} {fd : FuncData} {de_Book___init_0 : Addr} {C_Book : Addr} (F : Fun K "until" "Book.until" s_Book_until f fd) (T : Bi mg) (K_Book : KBook K C_Book) (c_Book : CalK P w K mg base "Book" C_Book 2 1 ["self", "entries"] (.own 0) [] (w_Book_init C_Book de_Book___init_0)) : FnOk P w K mg base CX0 4 f fd ["self", "day"] (spD K (.own 2) (w_Book_until C_Book de_Book___init_0)) := by
  refine Fun_okD F sc_Book_until (fun _ _ _ h => by obtain ⟨_, _, e, _, _, _⟩ := h; rw [e]; rfl) fun B cdv A outer s H E hr => ⟨_, (ds_one (ds_retM (dm_of (de_Ck c_Book hr (da_cons (m := .own 0) (de_frz (de_lc (own := [("entry", 2)]) 0 rfl sc_Book_until.nd (di_list (de_fld (de_v 0) rfl K_Book.cl K_Book.n__rows)) (blk_of ["self", "day", "entry"] (defScope s_Book_until) rfl (by decide +kernel) (by decide +kernel) (by decide +kernel) (by decide +kernel)) (dgc_name 2 sc_Book_until.nd rfl) (hol_cons rfl (fun _ _ => rfl) hol_nil) (fun _ _ _ _ _ => dts_one (dt_le (de_at (de_v 2) (de_int (m := .rd))) (de_v 1))) (fun _ _ _ _ _ => (de_v 2)))) da_nil))))), fun ds R ⟨r, t, e, ok, hl, hR⟩ => ?_⟩
  subst e
  and_intros
  refine fld_bk ?_
  show compD _ _ _ _ (r.map enD) [] _
  refine compD_fil (fun e => decide (day e ≤ t)) enD (fun x hx => ⟨_, rfl, fun N hN => ?_, fun _ N hN => ?_⟩) (by rw [szL]; omega) ?_
  · and_intros
    refine day_ix (ok x hx) ?_
    and_intros
    exact hN
  · and_intros
    exact hN
  refine ⟨_, r.filter fun e => decide (day e ≤ t), rfl, rfl, .inl (.inl rfl), fun e he => ok e (List.mem_filter.mp he).1, Nat.le_trans (List.length_filter_le _ _) hl, rfl, hR⟩
abbrev s_Book___eq : Stmt := inClass (topS 2) 3
theorem sc_Book___eq : FnScope ["self", "other"] ["self", "other"] (defScope s_Book___eq) := ⟨rfl, rfl, rfl, by decide +kernel, rfl, by decide +kernel, by decide +kernel⟩
theorem ok_Book___eq {f : Addr} {fd : FuncData} {C_Book : Addr} (F : Fun K "__eq__" "Book.__eq__" s_Book___eq f fd) (T : Bi mg) (K_Book : KBook K C_Book) (mg_Book : mg "Book" = some (.ref C_Book)) (isi_Book : IsiF K C_Book) : FnOk P w K mg base CX0 1 f fd ["self", "other"] (spD K (.own 0) (w_Book___eq C_Book)) := by
  refine Fun_okD F sc_Book___eq (fun _ _ _ h => by obtain ⟨_, _, e, _, _, _⟩ := h; rw [e]; rfl) fun B cdv A outer s H E hr => ⟨_, (ds_cons (ds_if (dt_not (dt_val (de_isiK (m := .rd) K (by rfl) T.isinstance_ (de_v 1) (de_glb (m := .rd) rfl mg_Book))))
(ds_one (ds_retM (dm_of (de_bl (m := .own 0)))))
ds_nil)
(ds_one (ds_retM (dm_of (de_eqD (m := .own 0) (hr.u 64) (de_fld (de_v 0) rfl K_Book.cl K_Book.n__rows) (de_fld (de_v 1) rfl K_Book.cl K_Book.n__rows)))))), fun ds R ⟨r, o, e, ok, hl, ho⟩ => ?_⟩
  subst e
  and_intros
  rcases ho with ⟨q, rfl, ok2, hR⟩ | ⟨h1, h2, hR⟩
  · refine gIsi_cls isi_Book (b := true) (if_pos rfl) ?_
    and_intros
    refine fld_bk (fld_bk ?_)
    exact gEqD_go (p := r = q) (okRows ok) (okRows ok2) (pnRows r) (pnRows q) ⟨rows_inj, fun h => by rw [h]⟩ (by rw [Bool.false_xor]; exact hR)
  · refine gIsi_cls isi_Book (b := false) h2 ?_
    and_intros
    exact hR
abbrev s_Book___ne : Stmt := inClass (topS 2) 4
theorem sc_Book___ne : FnScope ["self", "other"] ["self", "other"] (defScope s_Book___ne) := ⟨rfl, rfl, rfl, by decide +kernel, rfl, by decide +kernel, by decide +kernel⟩
theorem ok_Book___ne {f : Addr} {fd : FuncData} {C_Book : Addr} (F : Fun K "__ne__" "Book.__ne__" s_Book___ne f fd) (T : Bi mg) (ns_Book : NoSub K C_Book) (c_Book___eq : CalM P w K mg base C_Book "__eq__" 1 ["self", "other"] (.own 0) [] (w_Book___eq C_Book)) : FnOk P w K mg base CX0 2 f fd ["self", "other"] (spD K (.own 0) (w_Book___ne C_Book)) := by
  refine Fun_okD F sc_Book___ne (fun _ _ _ h => by obtain ⟨_, _, e, _, _, _⟩ := h; rw [e]; rfl) fun B cdv A outer s H E hr => ⟨_, (ds_one (ds_retM (dm_of (de_not (m := .own 0) (de_ownCmpU ns_Book c_Book___eq hr (de_v 0) (de_v 1)))))), fun ds R ⟨r, o, e, ok, hl, ho⟩ => ?_⟩
  subst e
  and_intros
  rcases ho with ⟨q, rfl, ok2, hR⟩ | ⟨h1, h2, hR⟩
  · refine .inl ⟨rfl, .inl rfl, r, _, rfl, ok, hl, .inl ⟨q, rfl, ok2, ?_⟩⟩
    and_intros
    exact hR
  · refine .inl ⟨rfl, .inr h1, r, _, rfl, ok, hl, .inr ⟨h1, h2, ?_⟩⟩
    and_intros
    exact hR
abbrev s_law_entry : Stmt := topS 8
theorem sc_law_entry : FnScope ["bag", "ids", "years", "students", "attrs", "purposes", "funds", "top", "number", "day", "kind", "student"] ["bag", "ids", "years", "students", "attrs", "purposes", "funds", "top"] (defScope s_law_entry) := ⟨rfl, rfl, rfl, by decide +kernel, rfl, by decide +kernel, by decide +kernel⟩
theorem ok_law_entry {f : Addr} {fd : FuncData} (F : Fun K "_law_entry" "_law_entry" s_law_entry f fd) (T : Bi mg) (c_law_draw : Cal P w K mg base "_law_draw" 1 ["bag", "size"] (.own 0) [] wDraw) : FnOk P w K mg base CX0 2 f fd ["bag", "ids", "years", "students", "attrs", "purposes", "funds", "top"] (spD K (.own 0) w_law_entry) := by
  refine Fun_okD F sc_law_entry (fun _ _ _ h => by obtain ⟨_, _, _, _, _, _, _, _, _, e, _, _, _, _, _, _, _, _, _⟩ := h; rw [e]; rfl) fun B cdv A outer s H E hr => ⟨_, (ds_cons (ds_setM 8 0 sc_law_entry.nd rfl (by first | exact Or.inl rfl | exact Or.inr rfl) (by decide) (dm_of (de_add (m := .own 0) (de_int (m := .rd)) (de_C c_law_draw hr (da_cons (m := .own 0) (de_v 0) (da_cons (m := .own 0) (de_v 1) da_nil))))))
(ds_cons (ds_setM 9 0 sc_law_entry.nd rfl (by first | exact Or.inl rfl | exact Or.inr rfl) (by decide) (dm_of (de_C c_law_draw hr (da_cons (m := .own 0) (de_v 0) (da_cons (m := .own 0) (de_mul (m := .own 0) (de_int (m := .rd)) (de_v 2)) da_nil)))))
(ds_cons (ds_setM 10 0 sc_law_entry.nd rfl (by first | exact Or.inl rfl | exact Or.inr rfl) (by decide) (dm_of (de_C c_law_draw hr (da_cons (m := .own 0) (de_v 0) (da_cons (m := .own 0) (de_int (m := .own 0)) da_nil)))))
(ds_cons (ds_setM 11 0 sc_law_entry.nd rfl (by first | exact Or.inl rfl | exact Or.inr rfl) (by decide) (dm_of (de_at (de_v 3) (de_C c_law_draw hr (da_cons (m := .own 0) (de_v 0) (da_cons (m := .own 0) (de_len (m := .own 0) T.len_ (de_v 3)) da_nil))))))
(ds_cons (ds_if (dt_lt (de_v 10) (de_int (m := .rd)))
(ds_one (ds_retM (dm_of (de_tup (da_cons (m := .own 0) (de_str (m := .own 0)) (da_cons (m := .own 0) (de_v 8) (da_cons (m := .own 0) (de_v 9) (da_cons (m := .own 0) (de_add (m := .own 0) (de_int (m := .rd)) (de_C c_law_draw hr (da_cons (m := .own 0) (de_v 0) (da_cons (m := .own 0) (de_v 1) da_nil)))) da_nil))))))))
ds_nil)
(ds_cons (ds_if (dt_eq (de_v 10) (de_int (m := .rd)))
(ds_one (ds_retM (dm_of (de_tup (da_cons (m := .own 0) (de_str (m := .own 0)) (da_cons (m := .own 0) (de_v 8) (da_cons (m := .own 0) (de_v 9) (da_cons (m := .own 0) (de_v 11) (da_cons (m := .own 0) (de_add (m := .own 0) (de_int (m := .rd)) (de_C c_law_draw hr (da_cons (m := .own 0) (de_v 0) (da_cons (m := .own 0) (de_int (m := .own 0)) da_nil)))) (da_cons (m := .own 0) (de_add (m := .own 0) (de_int (m := .rd)) (de_C c_law_draw hr (da_cons (m := .own 0) (de_v 0) (da_cons (m := .own 0) (de_int (m := .own 0)) da_nil)))) da_nil))))))))))
ds_nil)
(ds_cons (ds_if (dt_eq (de_v 10) (de_int (m := .rd)))
(ds_one (ds_retM (dm_of (de_tup (da_cons (m := .own 0) (de_str (m := .own 0)) (da_cons (m := .own 0) (de_v 8) (da_cons (m := .own 0) (de_v 9) (da_cons (m := .own 0) (de_v 11) (da_cons (m := .own 0) (de_at (de_v 4) (de_C c_law_draw hr (da_cons (m := .own 0) (de_v 0) (da_cons (m := .own 0) (de_len (m := .own 0) T.len_ (de_v 4)) da_nil)))) (da_cons (m := .own 0) (de_C c_law_draw hr (da_cons (m := .own 0) (de_v 0) (da_cons (m := .own 0) (de_int (m := .own 0)) da_nil))) da_nil))))))))))
ds_nil)
(ds_cons (ds_if (dt_lt (de_v 10) (de_int (m := .rd)))
(ds_one (ds_retM (dm_of (de_tup (da_cons (m := .own 0) (de_str (m := .own 0)) (da_cons (m := .own 0) (de_v 8) (da_cons (m := .own 0) (de_v 9) (da_cons (m := .own 0) (de_v 11) (da_cons (m := .own 0) (de_at (de_v 5) (de_C c_law_draw hr (da_cons (m := .own 0) (de_v 0) (da_cons (m := .own 0) (de_len (m := .own 0) T.len_ (de_v 5)) da_nil)))) (da_cons (m := .own 0) (de_C c_law_draw hr (da_cons (m := .own 0) (de_v 0) (da_cons (m := .own 0) (de_add (m := .own 0) (de_v 7) (de_int (m := .rd))) da_nil))) da_nil))))))))))
ds_nil)
(ds_cons (ds_if (dt_eq (de_v 10) (de_int (m := .rd)))
(ds_one (ds_retM (dm_of (de_tup (da_cons (m := .own 0) (de_str (m := .own 0)) (da_cons (m := .own 0) (de_v 8) (da_cons (m := .own 0) (de_v 9) (da_cons (m := .own 0) (de_v 11) (da_cons (m := .own 0) (de_C c_law_draw hr (da_cons (m := .own 0) (de_v 0) (da_cons (m := .own 0) (de_add (m := .own 0) (de_v 7) (de_int (m := .rd))) da_nil))) da_nil)))))))))
ds_nil)
(ds_one (ds_retM (dm_of (de_tup (da_cons (m := .own 0) (de_str (m := .own 0)) (da_cons (m := .own 0) (de_v 8) (da_cons (m := .own 0) (de_v 9) (da_cons (m := .own 0) (de_at (de_v 6) (de_C c_law_draw hr (da_cons (m := .own 0) (de_v 0) (da_cons (m := .own 0) (de_len (m := .own 0) T.len_ (de_v 6)) da_nil)))) (da_cons (m := .own 0) (de_C c_law_draw hr (da_cons (m := .own 0) (de_v 0) (da_cons (m := .own 0) (de_add (m := .own 0) (de_v 7) (de_int (m := .rd))) da_nil))) da_nil)))))))))))))))))), fun ds R ⟨b, i, y, tp, st, at_, pu, fu, hb, e, hi, hy, ht, l1, l2, l3, l4, ok, hR⟩ => ?_⟩
  subst e
  have o1 : ∀ s ∈ st, strOk s = true ∧ s.length ≤ 1000 := fun s h => ok s (by simp [h])
  have o2 : ∀ s ∈ at_, strOk s = true ∧ s.length ≤ 1000 := fun s h => ok s (by simp [h])
  have o3 : ∀ s ∈ pu, strOk s = true ∧ s.length ≤ 1000 := fun s h => ok s (by simp [h])
  have o4 : ∀ s ∈ fu, strOk s = true ∧ s.length ≤ 1000 := fun s h => ok s (by simp [h])
  and_intros
  refine drawN i hb (by omega) (by omega) fun v1 _ => ?_
  and_intros
  refine ⟨.inl ⟨by omega, by omega⟩, ?_⟩
  rw [show (100 : Int) * (y : Int) = ((100 * y : Nat) : Int) from by omega]
  refine drawN (100 * y) hb (by omega) (by omega) fun v2 hv2 => ?_
  refine drawN 9 hb (by decide) (by decide) fun v3 _ => ?_
  rw [List.length_map]
  refine drawN st.length hb l1.1 (by omega) fun v4 h4 => ?_
  refine gIx_nat (mapg h4) ?_
  have q1 := o1 st[v4] (List.getElem_mem h4)
  and_intros
  cases decide ((v3 : Int) < 3) with
  | true =>
    and_intros
    refine drawN i hb (by omega) (by omega) fun v5 _ => ?_
    and_intros
    exact ⟨by decide, hR (.inr "strike" :: .inl (1 + (v1 : Int)) :: .inl (v2 : Int) :: [.inl (1 + (v5 : Int))]) (en_ok rfl (by decide +kernel) (fun s hs => by simp at hs)) (by show (v2 : Int) ≤ 9999; omega)⟩
  | false =>
  and_intros
  cases decide ((v3 : Int) = 3) with
  | true =>
    and_intros
    refine drawN 2 hb (by decide) (by decide) fun v5 _ => ?_
    and_intros
    refine drawN 3 hb (by decide) (by decide) fun v6 _ => ?_
    and_intros
    exact ⟨by decide, hR (.inr "apply" :: .inl (1 + (v1 : Int)) :: .inl (v2 : Int) :: [.inr st[v4], .inl (1 + (v5 : Int)), .inl (1 + (v6 : Int))]) (en_ok rfl (by decide +kernel) (fun s hs => by simp at hs; rw [hs]; exact q1)) (by show (v2 : Int) ≤ 9999; omega)⟩
  | false =>
  and_intros
  cases decide ((v3 : Int) = 4) with
  | true =>
    and_intros
    rw [List.length_map]
    refine drawN at_.length hb l2.1 (by omega) fun v5 h5 => ?_
    refine gIx_nat (mapg h5) ?_
    have q2 := o2 at_[v5] (List.getElem_mem h5)
    refine drawN 7 hb (by decide) (by decide) fun v6 _ => ?_
    exact ⟨by decide, hR (.inr "attribute" :: .inl (1 + (v1 : Int)) :: .inl (v2 : Int) :: [.inr st[v4], .inr at_[v5], .inl (v6 : Int)]) (en_ok rfl (by decide +kernel) (fun s hs => by simp at hs; rcases hs with hs | hs <;> rw [hs] <;> assumption)) (by show (v2 : Int) ≤ 9999; omega)⟩
  | false =>
  and_intros
  have dt : ∀ {R : D → Prop}, (∀ v : Nat, R (natD v)) → wDraw B [.raw (.ref b), .int ((tp : Int) + 1)] R := fun {R} h => by
    rw [show (tp : Int) + 1 = ((tp + 1 : Nat) : Int) from rfl]
    exact drawN (tp + 1) hb (by omega) (by omega) fun v _ => h v
  cases decide ((v3 : Int) < 7) with
  | true =>
    and_intros
    rw [List.length_map]
    refine drawN pu.length hb l3.1 (by omega) fun v5 h5 => ?_
    refine gIx_nat (mapg h5) ?_
    have q2 := o3 pu[v5] (List.getElem_mem h5)
    refine dt fun v6 => ?_
    exact ⟨by decide, hR (.inr "need" :: .inl (1 + (v1 : Int)) :: .inl (v2 : Int) :: [.inr st[v4], .inr pu[v5], .inl (v6 : Int)]) (en_ok rfl (by decide +kernel) (fun s hs => by simp at hs; rcases hs with hs | hs <;> rw [hs] <;> assumption)) (by show (v2 : Int) ≤ 9999; omega)⟩
  | false =>
  and_intros
  cases decide ((v3 : Int) = 7) with
  | true =>
    and_intros
    refine dt fun v6 => ?_
    exact ⟨by decide, hR (.inr "aid" :: .inl (1 + (v1 : Int)) :: .inl (v2 : Int) :: [.inr st[v4], .inl (v6 : Int)]) (en_ok rfl (by decide +kernel) (fun s hs => by simp at hs; rw [hs]; exact q1)) (by show (v2 : Int) ≤ 9999; omega)⟩
  | false =>
  and_intros
  rw [List.length_map]
  refine drawN fu.length hb l4.1 (by omega) fun v5 h5 => ?_
  refine gIx_nat (mapg h5) ?_
  have q2 := o4 fu[v5] (List.getElem_mem h5)
  refine dt fun v6 => ?_
  exact ⟨by decide, hR (.inr "gift" :: .inl (1 + (v1 : Int)) :: .inl (v2 : Int) :: [.inr fu[v5], .inl (v6 : Int)]) (en_ok rfl (by decide +kernel) (fun s hs => by simp at hs; rw [hs]; exact q2)) (by show (v2 : Int) ≤ 9999; omega)⟩
abbrev s_law_drawn : Stmt := topS 9
theorem sc_law_drawn : FnScope ["bag", "count", "ids", "years", "words", "top", "rows", "k", "entry"] ["bag", "count", "ids", "years", "words", "top"] (defScope s_law_drawn) := ⟨rfl, rfl, rfl, by decide +kernel, rfl, by decide +kernel, by decide +kernel⟩
theorem ok_law_drawn {f : Addr} {fd : FuncData} (F : Fun K "_law_drawn" "_law_drawn" s_law_drawn f fd) (T : Bi mg) (c_law_entry : Cal P w K mg base "_law_entry" 2 ["bag", "ids", "years", "students", "attrs", "purposes", "funds", "top"] (.own 0) [] w_law_entry) : FnOk P w K mg base CX0 3 f fd ["bag", "count", "ids", "years", "words", "top"] (spD K (.own 0) w_law_drawn) := by
  refine Fun_okD F sc_law_drawn (fun _ _ _ h => by obtain ⟨_, _, _, _, _, _, _, e, _, _, _, _, _, _, _⟩ := h; rw [e]; rfl) fun B cdv A outer s H E hr => ⟨_, (ds_cons (ds_setM 6 1 sc_law_drawn.nd rfl (by first | exact Or.inl rfl | exact Or.inr rfl) (by decide) (dm_of (de_lst 0 da_nil)))
(ds_cons (ds_for PassesOwn.never rfl (di_range T.range_ (de_v 1)) (dg_name 7 sc_law_drawn.nd rfl (by first | exact Or.inl rfl | exact Or.inr rfl) (by decide))
(ds_cons (ds_setM 8 0 sc_law_drawn.nd rfl (by first | exact Or.inl rfl | exact Or.inr rfl) (by decide) (dm_of (de_C c_law_entry hr (da_cons (m := .own 0) (de_v 0) (da_cons (m := .own 0) (de_v 2) (da_cons (m := .own 0) (de_v 3) (da_cons (m := .own 0) (de_frz (de_slL (de_v 4) do_none (do_some (de_int (m := .rd))))) (da_cons (m := .own 0) (de_frz (de_slL (de_v 4) (do_some (de_int (m := .rd))) (do_some (de_int (m := .rd))))) (da_cons (m := .own 0) (de_frz (de_slL (de_v 4) (do_some (de_int (m := .rd))) (do_some (de_int (m := .rd))))) (da_cons (m := .own 0) (de_frz (de_slL (de_v 4) (do_some (de_int (m := .rd))) do_none)) (da_cons (m := .own 0) (de_v 5) da_nil)))))))))))
(ds_one (ds_if (dt_notinD (hr.u 65) (de_v 8) (de_var 6 1))
(ds_one (ds_exprM (m := .own 0) (dm_append 6 0 (dm_of (de_v 8)))))
ds_nil))))
(ds_one (ds_frz 6 (ds_retM (dm_of (de_v 6))))))), fun ds R ⟨b, n, i, y, tp, ws, hb, e, hn, hi, hy, ht, hw, ok, hR⟩ => ?_⟩
  subst e
  and_intros
  refine ⟨by decide, rng_go (by omega) ?_⟩
  refine forD_pre (l := List.range' 0 n) (ι := natD) (fun dn ks ρ => ∃ (q : List Ent) (p u : Option (Nat × D)), (∀ e ∈ q, EnOk e ∧ day e ≤ 9999) ∧ q.Nodup ∧ q.length ≤ dn.length ∧ ρ = [some (0, .raw (.ref b)), some (0, natD n), some (0, natD i), some (0, natD y), some (0, .lst (ws.map .str)), some (0, natD tp), some (1, .lst (q.map enD)), p, u]) ⟨[], none, none, (fun _ h => nomatch h), List.nodup_nil, Nat.le_refl _, rfl⟩ ?_ ?_
  · rintro dn k ks ρ hd ⟨q, p, u, h1, h2, h3, rfl⟩ N hN
    have hl3 := congrArg List.length hd
    rw [List.length_append, List.length_cons, List.length_range'] at hl3
    refine ⟨_, rfl, ?_⟩
    and_intros
    refine gSlL_go (f := D.str) ?_
    and_intros
    refine gSlL_go (f := D.str) ?_
    and_intros
    refine gSlL_go (f := D.str) ?_
    and_intros
    refine gSlL_go (f := D.str) ?_
    and_intros
    obtain ⟨c1, c2, c3, c4⟩ := cut8 hw
    refine ⟨b, i, y, tp, _, _, _, _, hb, rfl, hi, hy, ht, by omega, by omega, by omega, by omega, fun s hs => ok s ?_, fun x hx hdx => ?_⟩
    · simp only [List.mem_append] at hs
      rcases hs with ((hs | hs) | hs) | hs <;> exact cutA_mem hs
    and_intros
    refine gInD_go (α := Ent) (ι := enD) (x := x) enD_inj pn_en (ok_en (n := 62) hx.so) (fun y hy => ok_en (n := 62) (h1 y hy).1.so) ?_
    have key : ∀ (j : Decidable (x ∈ q)), (bOf fun t => if t = true then (q.map enD).length < sizeLine ∧ N [some (0, .raw (.ref b)), some (0, natD n), some (0, natD i), some (0, natD y), some (0, .lst (ws.map .str)), some (0, natD tp), some (1, .lst (q.map enD ++ [enD x])), some (0, natD k), some (0, enD x)] else N [some (0, .raw (.ref b)), some (0, natD n), some (0, natD i), some (0, natD y), some (0, .lst (ws.map .str)), some (0, natD tp), some (1, .lst (q.map enD)), some (0, natD k), some (0, enD x)]) (.bl (true ^^ @decide _ j)) := fun j => by
      cases j with
      | isTrue h => exact hN _ ⟨q, _, _, h1, h2, by rw [List.length_append]; omega, rfl⟩
      | isFalse h =>
        refine ⟨by rw [List.length_map, szL]; omega, hN _ ⟨q ++ [x], _, _, fun e he => ?_, ?_, by rw [List.length_append, List.length_append]; exact Nat.add_le_add_right h3 _, by rw [List.map_append]; rfl⟩⟩
        · rcases List.mem_append.mp he with z | z
          · exact h1 e z
          · rw [List.mem_singleton.mp z]; exact ⟨hx, hdx⟩
        · refine List.nodup_append.mpr ⟨h2, List.pairwise_singleton _ _, fun a ha c hc e => ?_⟩
          rw [List.mem_singleton.mp hc] at e
          exact h (e ▸ ha)
    exact key _
  · rintro ρ ⟨q, p, u, h1, h2, h3, rfl⟩
    rw [List.length_range'] at h3
    and_intros
    exact hR q h1 h2 h3
abbrev s_law_mixed : Stmt := topS 10
theorem sc_law_mixed : FnScope ["bag", "rows", "left", "mixed", "k", "at"] ["bag", "rows"] (defScope s_law_mixed) := ⟨rfl, rfl, rfl, by decide +kernel, rfl, by decide +kernel, by decide +kernel⟩
theorem ok_law_mixed {f : Addr} {fd : FuncData} (F : Fun K "_law_mixed" "_law_mixed" s_law_mixed f fd) (T : Bi mg) (c_law_draw : Cal P w K mg base "_law_draw" 1 ["bag", "size"] (.own 0) [] wDraw) : FnOk P w K mg base CX0 2 f fd ["bag", "rows"] (spD K (.own 0) w_law_mixed) := by
  refine Fun_okD F sc_law_mixed (fun _ _ _ h => by obtain ⟨_, _, _, e, _, _⟩ := h; rw [e]; rfl) fun B cdv A outer s H E hr => ⟨_, (ds_cons (ds_setM 2 0 sc_law_mixed.nd rfl (by first | exact Or.inl rfl | exact Or.inr rfl) (by decide) (dm_of (de_frz (de_listL T.list_ (de_v 1)))))
(ds_cons (ds_setM 3 1 sc_law_mixed.nd rfl (by first | exact Or.inl rfl | exact Or.inr rfl) (by decide) (dm_of (de_lst 0 da_nil)))
(ds_cons (ds_for PassesOwn.never rfl (di_range T.range_ (de_len (m := .rd) T.len_ (de_v 1))) (dg_name 4 sc_law_mixed.nd rfl (by first | exact Or.inl rfl | exact Or.inr rfl) (by decide))
(ds_cons (ds_setM 5 0 sc_law_mixed.nd rfl (by first | exact Or.inl rfl | exact Or.inr rfl) (by decide) (dm_of (de_C c_law_draw hr (da_cons (m := .own 0) (de_v 0) (da_cons (m := .own 0) (de_len (m := .own 0) T.len_ (de_v 2)) da_nil)))))
(ds_cons (ds_exprM (m := .own 0) (dm_append 3 0 (dm_of (de_at (de_v 2) (de_v 5)))))
(ds_one (ds_setM 2 0 sc_law_mixed.nd rfl (by first | exact Or.inl rfl | exact Or.inr rfl) (by decide) (dm_of (de_frz (de_cat (de_frz (de_slL (de_v 2) do_none (do_some (de_v 5)))) (de_frz (de_slL (de_v 2) (do_some (de_add (m := .rd) (de_v 5) (de_int (m := .rd)))) do_none))))))))))
(ds_one (ds_frz 3 (ds_retM (dm_of (de_v 3)))))))), fun ds R ⟨b, r, hb, e, hl, hR⟩ => ?_⟩
  subst e
  and_intros
  rw [List.length_map]
  refine ⟨by decide, rng_go (by omega) ?_⟩
  refine forD_pre (l := List.range' 0 r.length) (ι := natD) (fun dn ks ρ => ∃ (l m : List Ent) (p u : Option (Nat × D)), (m ++ l).Perm r ∧ l.length = ks.length ∧ ρ = [some (0, .raw (.ref b)), some (0, .lst (r.map enD)), some (0, .lst (l.map enD)), some (1, .lst (m.map enD)), p, u]) ⟨r, [], none, none, List.Perm.refl _, by rw [List.length_range'], rfl⟩ ?_ ?_
  · rintro dn k ks ρ hd ⟨l, m, p, u, h1, h2, rfl⟩ N hN
    rw [List.length_cons] at h2
    have h4 := h1.length_eq
    rw [List.length_append] at h4
    refine ⟨_, rfl, ?_⟩
    and_intros
    rw [List.length_map]
    refine drawN l.length hb (by omega) (by omega) fun a ha => ?_
    and_intros
    refine gIx_nat (mapg ha) ?_
    and_intros
    refine ⟨by rw [List.length_map, szL]; omega, ?_⟩
    and_intros
    refine gSlL_take (k := a) ?_
    and_intros
    refine gSlL_drop (k := a + 1) ?_
    refine gCat_go (by rw [List.length_take, List.length_drop, szL]; omega) ?_
    and_intros
    refine hN _ ⟨l.take a ++ l.drop (a + 1), m ++ [l[a]], _, _, ?_, by rw [List.length_append, List.length_take, List.length_drop]; omega, by rw [List.map_append (l₁ := m)]; rfl⟩
    refine List.Perm.trans ?_ h1
    rw [List.append_assoc]
    refine List.Perm.append_left _ ?_
    have e : l = l.take a ++ l[a] :: l.drop (a + 1) := by rw [← List.drop_eq_getElem_cons ha, List.take_append_drop]
    conv => rhs; rw [e]
    show (l[a] :: (l.take a ++ l.drop (a + 1))).Perm _
    exact List.perm_middle.symm
  · rintro ρ ⟨l, m, p, u, h1, h2, rfl⟩
    have : l = [] := List.eq_nil_of_length_eq_zero h2
    subst this
    rw [List.append_nil] at h1
    and_intros
    exact hR m h1
abbrev s_law_fresh : Stmt := topS 11
theorem sc_law_fresh : FnScope ["rows", "number", "entry"] ["rows"] (defScope s_law_fresh) := ⟨rfl, rfl, rfl, by decide +kernel, rfl, by decide +kernel, by decide +kernel⟩
theorem ok_law_fresh {f : Addr} {fd : FuncData} (F : Fun K "_law_fresh" "_law_fresh" s_law_fresh f fd) (T : Bi mg)  : FnOk P w K mg base CX0 1 f fd ["rows"] (spD K (.own 0) w_law_fresh) := by
  refine Fun_okD F sc_law_fresh (fun _ _ _ h => by obtain ⟨_, e, _, _, _⟩ := h; rw [e]; rfl) fun B cdv A outer s H E hr => ⟨_, (ds_cons (ds_for PassesOwn.never rfl (di_range2 T.range_ (de_int (m := .rd)) (de_int (m := .rd))) (dg_name 1 sc_law_fresh.nd rfl (by first | exact Or.inl rfl | exact Or.inr rfl) (by decide))
(ds_cons (ds_setM 2 0 sc_law_fresh.nd rfl (by first | exact Or.inl rfl | exact Or.inr rfl) (by decide) (dm_of (de_tup (da_cons (m := .own 0) (de_str (m := .own 0)) (da_cons (m := .own 0) (de_v 1) (da_cons (m := .own 0) (de_int (m := .own 0)) (da_cons (m := .own 0) (de_str (m := .own 0)) (da_cons (m := .own 0) (de_v 1) da_nil))))))))
(ds_one (ds_if (dt_notinD (hr.u 65) (de_v 2) (de_v 0))
(ds_one (ds_retM (dm_of (de_v 2))))
ds_nil))))
(ds_one (ds_retM (dm_of (de_non (m := .own 0)))))), fun ds R ⟨r, e, ok, hl, hR⟩ => ?_⟩
  subst e
  and_intros
  refine rng2_go (a := 1) (b := 200) (by decide) (by decide) ?_
  refine forD_pre (l := List.range' 1 199) (ι := natD) (fun dn ks ρ => ∃ (p q : Option (Nat × D)), (∀ m ∈ dn, frE m ∈ r) ∧ ρ = [some (0, .lst (r.map enD)), p, q]) ⟨none, none, (fun _ h => nomatch h), rfl⟩ ?_ ?_
  · rintro dn k ks ρ hd ⟨p, q, hm, rfl⟩ N hN
    refine ⟨_, rfl, ?_⟩
    and_intros
    refine ⟨by decide, ?_⟩
    refine gInD_go (α := Ent) (ι := enD) (x := frE k) enD_inj pn_en (ok_en (n := 62) (fr_ok k).so) (fun y hy => ok_en (n := 62) (ok y hy).so) ?_
    have key : ∀ (i : Decidable (frE k ∈ r)), (bOf fun t => if t = true then R (enD (frE k)) else N [some (0, .lst (r.map enD)), some (0, natD k), some (0, enD (frE k))]) (.bl (true ^^ @decide _ i)) := fun i => by
      cases i with
      | isTrue h =>
        show N _
        refine hN _ ⟨_, _, fun m hm2 => ?_, rfl⟩
        rcases List.mem_append.mp hm2 with z | z
        · exact hm m z
        · rw [List.mem_singleton.mp z]; exact h
      | isFalse h => exact hR _ (fr_ok k) h
    exact key _
  · rintro ρ ⟨p, q, hm, rfl⟩
    exfalso
    have h1 : ((List.range' 1 199).map frE).length ≤ r.length := nodup_le (List.pairwise_map.mpr ((List.nodup_range' (step := 1)).imp fun hne e => hne (fr_inj e))) fun y hy => by
      obtain ⟨m, hm2, rfl⟩ := List.mem_map.mp hy
      exact hm m hm2
    rw [List.length_map, List.length_range'] at h1
    omega
abbrev s_law_order : Stmt := topS 12
theorem sc_law_order : FnScope ["rows", "numbers", "entry", "found", "number"] ["rows"] (defScope s_law_order) := ⟨rfl, rfl, rfl, by decide +kernel, rfl, by decide +kernel, by decide +kernel⟩
theorem ok_law_order {f : Addr} {fd : FuncData} (F : Fun K "_law_order" "_law_order" s_law_order f fd) (T : Bi mg)  : FnOk P w K mg base CX0 1 f fd ["rows"] (spD K (.own 0) w_law_order) := by
  refine Fun_okD F sc_law_order (fun _ _ _ h => by obtain ⟨_, e, _, _, _, _⟩ := h; rw [e]; rfl) fun B cdv A outer s H E hr => ⟨_, (ds_cons (ds_setM 1 1 sc_law_order.nd rfl (by first | exact Or.inl rfl | exact Or.inr rfl) (by decide) (dm_of (de_lst 0 da_nil)))
(ds_cons (ds_for PassesOwn.never rfl (di_list (de_v 0)) (dg_name 2 sc_law_order.nd rfl (by first | exact Or.inl rfl | exact Or.inr rfl) (by decide))
(ds_one (ds_if (dt_notin (de_at (de_v 2) (de_int (m := .rd))) (de_var 1 1))
(ds_one (ds_exprM (m := .own 0) (dm_append 1 0 (dm_of (de_at (de_v 2) (de_int (m := .rd)))))))
ds_nil)))
(ds_cons (ds_frz 1 (ds_setM 3 0 sc_law_order.nd rfl (by first | exact Or.inl rfl | exact Or.inr rfl) (by decide) (dm_of (de_frz (de_lst 0 da_nil)))))
(ds_cons (ds_for PassesOwn.never rfl (di_list (de_frz (de_sorted (hr.u 67) T.sorted_ (de_v 1)))) (dg_name 4 sc_law_order.nd rfl (by first | exact Or.inl rfl | exact Or.inr rfl) (by decide))
(ds_one (ds_setM 3 0 sc_law_order.nd rfl (by first | exact Or.inl rfl | exact Or.inr rfl) (by decide) (dm_of (de_frz (de_cat (de_v 3) (de_frz (de_sortedM (hr.u 67) T.sorted_ (de_frz (de_lc (own := [("entry", 2)]) 0 rfl sc_law_order.nd (di_list (de_v 0)) (blk_of ["rows", "numbers", "entry", "found", "number"] (defScope s_law_order) rfl (by decide +kernel) (by decide +kernel) (by decide +kernel) (by decide +kernel)) (dgc_name 2 sc_law_order.nd rfl) (hol_cons rfl (fun _ _ => rfl) hol_nil) (fun _ _ _ _ _ => dts_one (dt_eq (de_at (de_v 2) (de_int (m := .rd))) (de_v 4))) (fun _ _ _ _ _ => (de_v 2))))))))))))
(ds_one (ds_retM (dm_of (de_v 3)))))))), fun ds R ⟨r, e, ok, nd, hl, hR⟩ => ?_⟩
  subst e
  and_intros
  refine ⟨by decide, ?_⟩
  refine forD_pre (l := r) (ι := enD) (fun dn ks ρ => ∃ (ns : List Int) (p : Option (Nat × D)), ns.Nodup ∧ ns.length ≤ dn.length ∧ (∀ e ∈ dn, num e ∈ ns) ∧ ρ = [some (0, .lst (r.map enD)), some (1, .lst (ns.map .int)), p, none, none]) ⟨[], none, List.nodup_nil, Nat.le_refl _, (fun _ h => nomatch h), rfl⟩ ?_ ?_
  · rintro dn x ks ρ hd ⟨ns, p, h1, h2, h3, rfl⟩ N hN
    have hx : x ∈ r := by rw [← hd]; simp
    have hl3 := congrArg List.length hd
    rw [List.length_append, List.length_cons] at hl3
    refine ⟨_, rfl, ?_⟩
    and_intros
    refine num_ix (ok x hx) ?_
    refine gIn_ints ?_
    by_cases c : num x ∈ ns
    · rw [decide_eq_true c]
      and_intros
      refine hN _ ⟨ns, _, h1, by rw [List.length_append]; omega, fun e he => ?_, rfl⟩
      rcases List.mem_append.mp he with z | z
      · exact h3 e z
      · rw [List.mem_singleton.mp z]; exact c
    · rw [decide_eq_false c]
      and_intros
      refine num_ix (ok x hx) ?_
      and_intros
      refine ⟨by rw [List.length_map, szL]; omega, ?_⟩
      refine hN _ ⟨ns ++ [num x], _, ?_, by rw [List.length_append, List.length_append]; exact Nat.add_le_add_right h2 _, fun e he => ?_, by rw [List.map_append]; rfl⟩
      · refine List.nodup_append.mpr ⟨h1, List.pairwise_singleton _ _, fun a ha b hb e => ?_⟩
        rw [List.mem_singleton.mp hb] at e
        exact c (e ▸ ha)
      · rcases List.mem_append.mp he with z | z
        · exact List.mem_append_left _ (h3 e z)
        · rw [List.mem_singleton.mp z]; exact List.mem_append_right _ List.mem_cons_self
  · rintro ρ ⟨ns, p2, h1, h2, h3, rfl⟩
    and_intros
    refine ⟨by decide, ?_⟩
    refine gSort_ints ?_
    and_intros
    have nd' : (ns.mergeSort leI).Nodup := (sortI_perm ns).nodup_iff.mpr h1
    refine forD_pre (l := ns.mergeSort leI) (ι := D.int) (fun dn ks ρ => ∃ (p4 : Option (Nat × D)), ρ = [some (0, .lst (r.map enD)), some (0, .lst (ns.map .int)), p2, some (0, .lst ((grp r dn).map enD)), p4]) ⟨none, rfl⟩ ?_ ?_
    · rintro dn m ks ρ hd ⟨p4, rfl⟩ N hN
      have nd2 : (dn ++ [m]).Nodup := by
        have : (dn ++ [m] ++ ks).Nodup := by rw [List.append_assoc]; exact hd ▸ nd'
        exact (List.nodup_append.mp this).1
      have hg := grp_len nd2 nd
      rw [grp_snoc] at hg
      refine ⟨_, rfl, ?_⟩
      and_intros
      refine compD_fil (fun e => decide (num e = m)) enD (fun x hx => ⟨_, rfl, fun N hN => ?_, fun _ N hN => ?_⟩) (by rw [szL]; omega) ?_
      · and_intros
        refine num_ix (ok x hx) ?_
        and_intros
        exact hN
      · and_intros
        exact hN
      refine gSortC_en (fun e he => ok e (List.mem_filter.mp he).1) ?_
      refine gCat_go (f := enD) (a := grp r dn) (by rw [List.length_append] at hg; rw [szL]; omega) ?_
      refine hN _ ⟨_, by rw [grp_snoc]⟩
    · rintro ρ ⟨p4, rfl⟩
      and_intros
      rw [grp_ord ok nd h1 h3]
      exact hR
abbrev s_law_same : Stmt := topS 15
theorem sc_law_same : FnScope ["told", "due", "k"] ["told", "due"] (defScope s_law_same) := ⟨rfl, rfl, rfl, by decide +kernel, rfl, by decide +kernel, by decide +kernel⟩
theorem ok_law_same {f : Addr} {fd : FuncData} (F : Fun K "_law_same" "_law_same" s_law_same f fd) (T : Bi mg)  : FnOk P w K mg base CX0 1 f fd ["told", "due"] (spD K (.own 0) w_law_same) := by
  refine Fun_okD F sc_law_same (fun _ _ _ h => by obtain ⟨_, e, _, _⟩ := h; rw [e]; rfl) fun B cdv A outer s H E hr => ⟨_, (ds_cons (ds_if (dt_bool (dw_or (dt_not (dt_val (de_isiK (m := .rd) K (by rfl) T.isinstance_ (de_v 0) (de_ty (m := .rd) (T := "tuple") (by rfl) T.tuple_ (by decide +kernel))))) (dw_or1 (dt_ne (de_len (m := .rd) T.len_ (de_v 0)) (de_len (m := .rd) T.len_ (de_v 1))))))
(ds_one (ds_retM (dm_of (de_bl (m := .own 0)))))
ds_nil)
(ds_cons (ds_for PassesOwn.never rfl (di_range T.range_ (de_len (m := .rd) T.len_ (de_v 1))) (dg_name 2 sc_law_same.nd rfl (by first | exact Or.inl rfl | exact Or.inr rfl) (by decide))
(ds_one (ds_if (dt_val (de_isiK (m := .rd) K (by rfl) T.isinstance_ (de_at (de_v 1) (de_v 2)) (de_ty (m := .rd) (T := "str") (by rfl) T.str_ (by decide +kernel))))
(ds_one (ds_if (dt_not (dt_val (de_isiK (m := .rd) K (by rfl) T.isinstance_ (de_at (de_v 0) (de_v 2)) (de_ty (m := .rd) (T := "str") (by rfl) T.str_ (by decide +kernel)))))
(ds_one (ds_retM (dm_of (de_bl (m := .own 0)))))
ds_nil))
(ds_one (ds_if (dt_bool (dw_or (dt_not (dt_val (de_isiK (m := .rd) K (by rfl) T.isinstance_ (de_at (de_v 0) (de_v 2)) (de_ty (m := .rd) (T := "int") (by rfl) T.int_ (by decide +kernel))))) (dw_or1 (dt_val (de_isiK (m := .rd) K (by rfl) T.isinstance_ (de_at (de_v 0) (de_v 2)) (de_ty (m := .rd) (T := "bool") (by rfl) T.bool_ (by decide +kernel)))))))
(ds_one (ds_retM (dm_of (de_bl (m := .own 0)))))
ds_nil)))))
(ds_one (ds_retM (dm_of (de_eqD (m := .own 0) (hr.u 64) (de_v 0) (de_v 1))))))), fun ds R ⟨x, e, ok, hR⟩ => ?_⟩
  subst e
  have hl := en_len ok
  and_intros
  show gIsi _ [.tup (x.map keyD), _] _
  and_intros
  show gLen [.tup (x.map keyD)] _
  and_intros
  show gLen [.tup (x.map keyD)] _
  and_intros
  show gLen [.tup (x.map keyD)] _
  and_intros
  rw [List.length_map]
  refine rng_go (by omega) ?_
  refine forD_map (ι := natD) (fun l3 ρ => ∃ (p : Option (Nat × D)), (∀ k ∈ l3, k < x.length) ∧ ρ = [some (0, enD x), some (0, enD x), p]) ⟨none, fun k hk => by simpa using List.mem_range'.mp hk, rfl⟩ ?_ ?_
  · rintro k l3 ρ ⟨p, hk, rfl⟩ N hN
    have hk0 := hk k List.mem_cons_self
    have nx := hN _ ⟨some (0, natD k), fun j hj => hk j (List.mem_cons_of_mem _ hj), rfl⟩
    refine ⟨_, rfl, ?_⟩
    and_intros
    refine gIx_tl (mapg hk0) ?_
    cases hx : x[k] with
    | inl i =>
      rw [show keyD (Sum.inl i) = .int i from rfl]
      and_intros
      refine gIx_tl (mapg hk0) ?_
      rw [hx, show keyD (Sum.inl i) = .int i from rfl]
      and_intros
      refine gIx_tl (mapg hk0) ?_
      rw [hx, show keyD (Sum.inl i) = .int i from rfl]
      and_intros
      exact nx
    | inr z =>
      rw [show keyD (Sum.inr z) = .str z from rfl]
      and_intros
      refine gIx_tl (mapg hk0) ?_
      rw [hx, show keyD (Sum.inr z) = .str z from rfl]
      and_intros
      exact nx
  · rintro ρ ⟨p, _, rfl⟩
    and_intros
    refine gEqD_go (p := True) (ok_en (n := 59) ok.so) (ok_en (n := 59) ok.so) (pn_en x) (pn_en x) ⟨fun _ => trivial, fun _ => rfl⟩ ?_
    and_intros
    exact hR
abbrev s_law_has_just : Stmt := topS 16
theorem sc_law_has_just : FnScope ["book", "due", "entry", "listed", "k"] ["book", "due"] (defScope s_law_has_just) := ⟨rfl, rfl, rfl, by decide +kernel, rfl, by decide +kernel, by decide +kernel⟩
theorem ok_law_has_just {f : Addr} {fd : FuncData} {C_Book : Addr} (F : Fun K "_law_has_just" "_law_has_just" s_law_has_just f fd) (T : Bi mg) (mg_Book : mg "Book" = some (.ref C_Book)) (isi_Book : IsiF K C_Book) (it_Book : CalIL P w K mg base C_Book 1 "_rows") (c_Book___len : CalM P w K mg base C_Book "__len__" 1 ["self"] (.own 0) [] (w_Book___len C_Book)) (c_law_same : Cal P w K mg base "_law_same" 1 ["told", "due"] (.own 0) [] w_law_same) : FnOk P w K mg base CX0 5 f fd ["book", "due"] (spD K (.own 0) (w_law_has_just C_Book)) := by
  refine Fun_okD F sc_law_has_just (fun _ _ _ h => by obtain ⟨_, e, _, _, _⟩ := h; rw [e]; rfl) fun B cdv A outer s H E hr => ⟨_, (ds_cons (ds_if (dt_bool (dw_or (dt_not (dt_val (de_isiK (m := .rd) K (by rfl) T.isinstance_ (de_v 0) (de_glb (m := .rd) rfl mg_Book)))) (dw_or1 (dt_ne (de_ownLen (m := .rd) c_Book___len hr T.len_ (de_v 0)) (de_len (m := .rd) T.len_ (de_v 1))))))
(ds_one (ds_retM (dm_of (de_bl (m := .own 0)))))
ds_nil)
(ds_cons (ds_setLc (own := [("entry", 2)]) 3 0 rfl sc_law_has_just.nd rfl rfl (by decide) (sw_true rfl rfl rfl rfl) (di_ownL it_Book hr (de_v 0)) (blk_of ["book", "due", "entry", "listed", "k"] (defScope s_law_has_just) rfl (by decide +kernel) (by decide +kernel) (by decide +kernel) (by decide +kernel)) (dgc_name 2 sc_law_has_just.nd rfl) (hol_cons rfl (fun _ _ => rfl) hol_nil) (fun _ _ _ _ _ => dts_nil) (fun _ _ _ _ _ => (de_v 2)))
(ds_cons (ds_frz 3 (ds_if (dt_ne (de_len (m := .rd) T.len_ (de_v 3)) (de_len (m := .rd) T.len_ (de_v 1)))
(ds_one (ds_retM (dm_of (de_bl (m := .own 0)))))
ds_nil))
(ds_cons (ds_for PassesOwn.never rfl (di_range T.range_ (de_len (m := .rd) T.len_ (de_v 1))) (dg_name 4 sc_law_has_just.nd rfl (by first | exact Or.inl rfl | exact Or.inr rfl) (by decide))
(ds_one (ds_if (dt_not (dt_val (de_C c_law_same hr (da_cons (m := .own 0) (de_at (de_v 3) (de_v 4)) (da_cons (m := .own 0) (de_at (de_v 1) (de_v 4)) da_nil)))))
(ds_one (ds_retM (dm_of (de_bl (m := .own 0)))))
ds_nil)))
(ds_one (ds_retM (dm_of (de_eqD (m := .own 0) (hr.u 64) (de_listO rfl it_Book c_Book___len hr T.list_ (de_v 0)) (de_v 1))))))))), fun ds R ⟨r, e, ok, hl, hR⟩ => ?_⟩
  subst e
  and_intros
  refine gIsi_cls isi_Book (b := true) cls_bk ?_
  and_intros
  refine ⟨rfl, r, rfl, _, rfl, by omega, by omega, ?_⟩
  rw [List.length_map, decide_eq_true rfl]
  and_intros
  refine owl_bk ?_
  refine compD_all (xs := r) (ι := enD) enD (fun x hx => ⟨_, rfl, fun N hN => ?_⟩) (by rw [szL]; omega) ?_
  · and_intros
    exact hN
  and_intros
  rw [List.length_map, decide_eq_true rfl]
  and_intros
  refine rng_go (by omega) ?_
  refine forD_map (ι := natD) (fun l3 ρ => ∃ (p : Option (Nat × D)), (∀ k ∈ l3, k < r.length) ∧ ρ = [some (0, bkD C_Book r), some (0, .lst (r.map enD)), none, some (0, .lst (r.map enD)), p]) ⟨none, fun k hk => by simpa using List.mem_range'.mp hk, rfl⟩ ?_ ?_
  · rintro k l3 ρ ⟨p, hk, rfl⟩ N hN
    have hk0 := hk k List.mem_cons_self
    refine ⟨_, rfl, ?_⟩
    and_intros
    refine gIx_nat (mapg hk0) (gIx_nat (mapg hk0) ?_)
    refine ⟨r[k], rfl, ok _ (List.getElem_mem hk0), ?_⟩
    and_intros
    exact hN _ ⟨_, fun j hj => hk j (List.mem_cons_of_mem _ hj), rfl⟩
  · rintro ρ ⟨p, _, rfl⟩
    and_intros
    refine lsO_bk ?_
    refine ⟨r, rfl, ⟨_, rfl, by omega, by omega⟩, ?_⟩
    refine gEqD_go (p := True) (okRows ok) (okRows ok) (pnRows r) (pnRows r) ⟨fun _ => trivial, fun _ => rfl⟩ ?_
    and_intros
    exact hR
abbrev s_law_alike : Stmt := topS 17
theorem sc_law_alike : FnScope ["first", "second"] ["first", "second"] (defScope s_law_alike) := ⟨rfl, rfl, rfl, by decide +kernel, rfl, by decide +kernel, by decide +kernel⟩
theorem ok_law_alike {f : Addr} {fd : FuncData} {C_Book : Addr} (F : Fun K "_law_alike" "_law_alike" s_law_alike f fd) (T : Bi mg) (c_Book___eq : CalM P w K mg base C_Book "__eq__" 1 ["self", "other"] (.own 0) [] (w_Book___eq C_Book)) (c_Book___ne : CalM P w K mg base C_Book "__ne__" 2 ["self", "other"] (.own 0) [] (w_Book___ne C_Book)) : FnOk P w K mg base CX0 3 f fd ["first", "second"] (spD K (.own 0) (w_law_alike C_Book)) := by
  refine Fun_okD F sc_law_alike (fun _ _ _ h => by obtain ⟨_, e, _, _, _⟩ := h; rw [e]; rfl) fun B cdv A outer s H E hr => ⟨_, (ds_cons (ds_if (dt_bool (dw_or (dt_isnotB (de_ownCmp c_Book___eq hr (de_v 0) (de_v 1)) (de_bl (m := .rd))) (dw_or1 (dt_isnotB (de_ownCmp c_Book___eq hr (de_v 1) (de_v 0)) (de_bl (m := .rd))))))
(ds_one (ds_retM (dm_of (de_bl (m := .own 0)))))
ds_nil)
(ds_one (ds_retM (dm_of (de_and (m := .own 0) (de_isB (m := .rd) (de_ownCmp c_Book___ne hr (de_v 0) (de_v 1)) (de_bl (m := .rd))) (de_one (de_isB (m := .own 0) (de_ownCmp c_Book___ne hr (de_v 1) (de_v 0)) (de_bl (m := .rd))))))))), fun ds R ⟨r, e, ok, hl, hR⟩ => ?_⟩
  subst e
  and_intros
  have q1 : ∀ {R : D → Prop}, R (.bl true) → w_Book___eq C_Book B [bkD C_Book r, bkD C_Book r] R := fun {R} h => ⟨r, _, rfl, ok, hl, .inl ⟨r, rfl, ok, by rw [decide_eq_true rfl]; exact h⟩⟩
  have q2 : ∀ {R : D → Prop}, R (.bl false) → w_Book___ne C_Book B [bkD C_Book r, bkD C_Book r] R := fun {R} h => ⟨r, _, rfl, ok, hl, .inl ⟨r, rfl, ok, by rw [decide_eq_true rfl]; exact h⟩⟩
  refine ⟨rfl, rfl, q1 ?_⟩
  and_intros
  refine ⟨rfl, rfl, q1 ?_⟩
  and_intros
  refine ⟨rfl, rfl, q2 ?_⟩
  and_intros
  refine ⟨rfl, rfl, q2 ?_⟩
  and_intros
  exact hR
abbrev s_law_apart : Stmt := topS 18
theorem sc_law_apart : FnScope ["first", "second"] ["first", "second"] (defScope s_law_apart) := ⟨rfl, rfl, rfl, by decide +kernel, rfl, by decide +kernel, by decide +kernel⟩
theorem ok_law_apart {f : Addr} {fd : FuncData} {C_Book : Addr} (F : Fun K "_law_apart" "_law_apart" s_law_apart f fd) (T : Bi mg) (ns_Book : NoSub K C_Book) (c_Book___eq : CalM P w K mg base C_Book "__eq__" 1 ["self", "other"] (.own 0) [] (w_Book___eq C_Book)) (c_Book___ne : CalM P w K mg base C_Book "__ne__" 2 ["self", "other"] (.own 0) [] (w_Book___ne C_Book)) : FnOk P w K mg base CX0 3 f fd ["first", "second"] (spD K (.own 0) (w_law_apart C_Book)) := by
  refine Fun_okD F sc_law_apart (fun _ _ _ h => by obtain ⟨_, _, e, _, _, _, _⟩ := h; rw [e]; rfl) fun B cdv A outer s H E hr => ⟨_, (ds_cons (ds_if (dt_bool (dw_or (dt_isnotB (de_ownCmpU ns_Book c_Book___eq hr (de_v 0) (de_v 1)) (de_bl (m := .rd))) (dw_or1 (dt_isnotB (de_ownCmpU ns_Book c_Book___eq hr (de_v 1) (de_v 0)) (de_bl (m := .rd))))))
(ds_one (ds_retM (dm_of (de_bl (m := .own 0)))))
ds_nil)
(ds_one (ds_retM (dm_of (de_and (m := .own 0) (de_isB (m := .rd) (de_ownCmpU ns_Book c_Book___ne hr (de_v 0) (de_v 1)) (de_bl (m := .rd))) (de_one (de_isB (m := .own 0) (de_ownCmpU ns_Book c_Book___ne hr (de_v 1) (de_v 0)) (de_bl (m := .rd))))))))), fun ds R ⟨r, o, e, ok, hl, ho, hR⟩ => ?_⟩
  subst e
  and_intros
  have go : ∀ {R : D → Prop}, R (.bl false) → gCmpU C_Book (w_Book___eq C_Book B) (bkD C_Book r) o R ∧ gCmpU C_Book (w_Book___eq C_Book B) o (bkD C_Book r) R := fun {R} h => by
    rcases ho with ⟨q, rfl, ok2, hl2, ne⟩ | ⟨h1, h2⟩
    · exact ⟨.inl ⟨rfl, .inl rfl, r, _, rfl, ok, hl, .inl ⟨q, rfl, ok2, by rw [decide_eq_false ne]; exact h⟩⟩, .inl ⟨rfl, .inl rfl, q, _, rfl, ok2, hl2, .inl ⟨r, rfl, ok, by rw [decide_eq_false (Ne.symm ne)]; exact h⟩⟩⟩
    · exact ⟨.inl ⟨rfl, .inr h1, r, _, rfl, ok, hl, .inr ⟨h1, h2, h⟩⟩, .inr ⟨h1, rfl, r, _, rfl, ok, hl, .inr ⟨h1, h2, h⟩⟩⟩
  have gn : ∀ {R : D → Prop}, R (.bl true) → gCmpU C_Book (w_Book___ne C_Book B) (bkD C_Book r) o R ∧ gCmpU C_Book (w_Book___ne C_Book B) o (bkD C_Book r) R := fun {R} h => by
    rcases ho with ⟨q, rfl, ok2, hl2, ne⟩ | ⟨h1, h2⟩
    · exact ⟨.inl ⟨rfl, .inl rfl, r, _, rfl, ok, hl, .inl ⟨q, rfl, ok2, by rw [decide_eq_false ne]; exact h⟩⟩, .inl ⟨rfl, .inl rfl, q, _, rfl, ok2, hl2, .inl ⟨r, rfl, ok, by rw [decide_eq_false (Ne.symm ne)]; exact h⟩⟩⟩
    · exact ⟨.inl ⟨rfl, .inr h1, r, _, rfl, ok, hl, .inr ⟨h1, h2, h⟩⟩, .inr ⟨h1, rfl, r, _, rfl, ok, hl, .inr ⟨h1, h2, h⟩⟩⟩
  refine (go ?_).1
  and_intros
  refine (go ?_).2
  and_intros
  refine (gn ?_).1
  and_intros
  refine (gn ?_).2
  and_intros
  exact hR
abbrev s_law_changed : Stmt := topS 13
theorem sc_law_changed : FnScope ["entry", "at", "part"] ["entry", "at"] (defScope s_law_changed) := ⟨rfl, rfl, rfl, by decide +kernel, rfl, by decide +kernel, by decide +kernel⟩
theorem ok_law_changed {f : Addr} {fd : FuncData} (F : Fun K "_law_changed" "_law_changed" s_law_changed f fd) (T : Bi mg)  : FnOk P w K mg base CX0 1 f fd ["entry", "at"] (spD K (.own 0) w_law_changed) := by
  refine Fun_okD F sc_law_changed (fun _ _ _ h => by obtain ⟨_, _, e, _, _, _, _⟩ := h; rw [e]; rfl) fun B cdv A outer s H E hr => ⟨_, (ds_cons (ds_setM 2 0 sc_law_changed.nd rfl (by first | exact Or.inl rfl | exact Or.inr rfl) (by decide) (dm_of (de_at (de_v 0) (de_v 1))))
(ds_cons (ds_if (dt_eq (de_v 1) (de_int (m := .rd)))
(ds_one (ds_setM 2 0 sc_law_changed.nd rfl (by first | exact Or.inl rfl | exact Or.inr rfl) (by decide) (dm_of (de_at (de_frz (de_lst 0 (da_cons (m := .own 0) (de_str (m := .own 0)) (da_cons (m := .own 0) (de_str (m := .own 0)) da_nil)))) (de_intB (m := .rd) T.int_ (de_eq (m := .rd) (de_v 2) (de_str (m := .rd))))))))
(ds_one (ds_if (dt_val (de_isiK (m := .rd) K (by rfl) T.isinstance_ (de_v 2) (de_ty (m := .rd) (T := "int") (by rfl) T.int_ (by decide +kernel))))
(ds_one (ds_setM 2 0 sc_law_changed.nd rfl (by first | exact Or.inl rfl | exact Or.inr rfl) (by decide) (dm_of (de_sub (m := .own 0) (de_add (m := .rd) (de_v 2) (de_int (m := .rd))) (de_mul (m := .rd) (de_int (m := .rd)) (de_intB (m := .rd) T.int_ (de_gt (m := .rd) (de_v 2) (de_int (m := .rd)))))))))
(ds_one (ds_if (dt_lt (de_len (m := .rd) T.len_ (de_v 2)) (de_int (m := .rd)))
(ds_one (ds_setM 2 0 sc_law_changed.nd rfl (by first | exact Or.inl rfl | exact Or.inr rfl) (by decide) (dm_of (de_catS (m := .own 0) (de_v 2) (de_str (m := .rd))))))
(ds_one (ds_setM 2 0 sc_law_changed.nd rfl (by first | exact Or.inl rfl | exact Or.inr rfl) (by decide) (dm_of (de_slS (m := .own 0) (de_v 2) (do_some (de_int (m := .rd))) do_none)))))))))
(ds_one (ds_retM (dm_of (de_catT (de_catT (de_slT (de_v 0) do_none (do_some (de_v 1))) (de_tup (da_cons (m := .own 0) (de_v 2) da_nil))) (de_slT (de_v 0) (do_some (de_add (m := .rd) (de_v 1) (de_int (m := .rd)))) do_none))))))), fun ds R ⟨x, k, e, ok, hk, h0, hR⟩ => ?_⟩
  subst e
  have hl := en_len ok
  and_intros
  refine gIx_tl (k := k) (mapg (f := keyD) hk) ?_
  by_cases c0 : k = 0
  · obtain ⟨n, r, h⟩ := h0 c0
    rw [decide_eq_true (by omega)]
    subst c0
    and_intros
    refine ⟨by decide, ?_⟩
    rcases h with rfl | rfl
    · show gEqA false (.str "aid") _ _
      and_intros
      refine put_go (p := .inr "gift") hk (by omega) (hR _ ?_ (set_ne hk (by intro z; cases z)))
      obtain ⟨kd, a, d, t, e, h⟩ := ok.ex
      injection e with e1 e2
      cases e1
      cases e2
      exact en_ok h (by decide +kernel) (fun s hs => ok.st s (by simp [hs]))
    · show gEqA false (.str "gift") _ _
      and_intros
      rw [show decide (("gift" : Str) = "aid") = false from by decide +kernel]
      and_intros
      refine put_go (p := .inr "aid") hk (by omega) (hR _ ?_ (set_ne hk (by intro z; cases z)))
      obtain ⟨kd, a, d, t, e, h⟩ := ok.ex
      injection e with e1 e2
      cases e1
      cases e2
      exact en_ok h (by decide +kernel) (fun s hs => ok.st s (by simp [hs]))
  rw [decide_eq_false (by omega)]
  and_intros
  have fin : ∀ p : Key, isS p = isS x[k] → p ≠ x[k] → (∀ s, p = .inr s → strOk s = true ∧ s.length ≤ 1000) → gSlTp (enD x) none (some (k : Int)) fun a => 1 ≤ sizeLine ∧ gCatT a (.tup [keyD p]) fun b => iOf (fun lo => gSlTp (enD x) lo none fun y => gCatT b y R) (.int ((k : Int) + 1)) :=
    fun p h1 h2 h3 => put_go hk (by omega) (hR _ (en_set ok (by omega) hk h1 h3) (set_ne hk h2))
  have hmem := List.getElem_mem hk
  cases hx : x[k] with
  | inl i =>
    rw [hx] at fin
    rw [show keyD (Sum.inl i) = .int i from rfl]
    and_intros
    by_cases c4 : i > 4
    · rw [decide_eq_true c4]
      and_intros
      refine ⟨.inl ⟨by omega, by omega⟩, ?_⟩
      refine fin (.inl (i + 1 - 2 * 1)) rfl (fun z => by injection z with z; omega) (fun s z => by cases z)
    · rw [decide_eq_false c4]
      and_intros
      refine ⟨.inl ⟨by omega, by omega⟩, ?_⟩
      refine fin (.inl (i + 1 - 2 * 0)) rfl (fun z => by injection z with z; omega) (fun s z => by cases z)
  | inr z =>
    rw [hx] at fin hmem
    rw [show keyD (Sum.inr z) = .str z from rfl]
    obtain ⟨o1, o2⟩ := ok.st z hmem
    and_intros
    refine ⟨by rw [szL]; omega, ?_⟩
    and_intros
    by_cases c8 : z.length < 8
    · rw [decide_eq_true (by omega)]
      and_intros
      have la : (z ++ "a").length = z.length + 1 := len_cat z "a"
      refine ⟨by rw [szL]; show z.length + 1 ≤ _; omega, ?_⟩
      refine fin (.inr (z ++ "a")) rfl (fun e => ?_) (fun s e => ?_)
      · injection e with e
        rw [e] at la
        omega
      · cases e
        exact ⟨strOk_cat o1 (by decide +kernel), by omega⟩
    · rw [decide_eq_false (by omega)]
      and_intros
      refine ⟨by rw [szL]; omega, ?_⟩
      have hc := cutS_length z (some 1) none
      have hs : (cutS z (some 1) none).length = z.length - 1 := cut1_len (by omega)
      refine fin (.inr (cutS z (some 1) none)) rfl (fun e => ?_) (fun s e => ?_)
      · injection e with e
        rw [e] at hs
        omega
      · cases e
        exact ⟨strOk_cut o1, by omega⟩
abbrev s_law_near : Stmt := topS 14
theorem sc_law_near : FnScope ["entry", "first", "at"] ["entry"] (defScope s_law_near) := ⟨rfl, rfl, rfl, by decide +kernel, rfl, by decide +kernel, by decide +kernel⟩
theorem ok_law_near {f : Addr} {fd : FuncData} (F : Fun K "_law_near" "_law_near" s_law_near f fd) (T : Bi mg) (c_law_changed : Cal P w K mg base "_law_changed" 1 ["entry", "at"] (.own 0) [] w_law_changed) : FnOk P w K mg base CX0 2 f fd ["entry"] (spD K (.own 0) w_law_near) := by
  refine Fun_okD F sc_law_near (fun _ _ _ h => by obtain ⟨_, e, _, _⟩ := h; rw [e]; rfl) fun B cdv A outer s H E hr => ⟨_, (ds_cons (ds_setM 1 0 sc_law_near.nd rfl (by first | exact Or.inl rfl | exact Or.inr rfl) (by decide) (dm_of (de_intB (m := .own 0) T.int_ (de_and (m := .rd) (de_ne (m := .rd) (de_at (de_v 0) (de_int (m := .rd))) (de_str (m := .rd))) (de_one (de_ne (m := .rd) (de_at (de_v 0) (de_int (m := .rd))) (de_str (m := .rd))))))))
(ds_one (ds_retM (dm_of (de_frz (de_lc (own := [("at", 2)]) 0 rfl sc_law_near.nd (di_range2 T.range_ (de_v 1) (de_len (m := .rd) T.len_ (de_v 0))) (blk_of ["entry", "first", "at"] (defScope s_law_near) rfl (by decide +kernel) (by decide +kernel) (by decide +kernel) (by decide +kernel)) (dgc_name 2 sc_law_near.nd rfl) (hol_cons rfl (fun _ _ => rfl) hol_nil) (fun _ _ _ _ _ => dts_nil) (fun _ _ _ _ _ => (de_C c_law_changed hr (da_cons (m := .own 0) (de_v 0) (da_cons (m := .own 0) (de_v 2) da_nil)))))))))), fun ds R ⟨x, e, ok, hR⟩ => ?_⟩
  subst e
  have hl := en_len ok
  obtain ⟨kd, n, d, r, ex, hsh⟩ := ok.ex
  have g0 : ∀ {Q : D → Prop}, Q (.str kd) → gIx (enD x) (.int 0) Q := fun {Q} q => by rw [ex]; exact gIx_tl (k := 0) rfl q
  have go : ∀ (a : Nat) (d0 : D), a ≤ 1 → d0 = natD a → (a = 0 → kd = "aid" ∨ kd = "gift") → gLen [enD x] fun y => rng2 (fun xs => compD (tgN 2) (fun x R => R true) (fArgs (fun xs R => w_law_changed B xs R) (fCons (fVar 0 0) (fCons (fVar 2 0) fNil))) [some (0, enD x), some (0, d0), none] xs [] fun d => R d) d0 y := fun a d0 ha hd0 h0 => by
    subst hd0
    have e : ∀ Q : D → Prop, Q (.int (x.length : Int)) → gLen [enD x] Q := fun Q q => by
      show Q (.int ((x.map keyD).length : Int))
      rw [List.length_map]; exact q
    refine e _ ?_
    refine rng2_go (by omega) (by omega) ?_
    refine compD_rel (xs := List.range' a (x.length - a)) (ι := natD) enD (fun _ y => EnOk y ∧ y ≠ x) (fun k hk => ⟨_, rfl, fun N hN => ?_⟩) (by rw [List.length_range', szL]; omega) fun as h1 h2 => ?_
    · have hk2 := List.mem_range'_1.mp hk
      and_intros
      refine ⟨x, k, rfl, ok, by omega, fun h => ?_, fun y h1 h2 => hN y ⟨h1, h2⟩⟩
      rcases h0 (by omega) with z | z
      · exact ⟨_, _, .inl (by rw [ex, z])⟩
      · exact ⟨_, _, .inr (by rw [ex, z])⟩
    · rw [List.length_range'] at h1
      refine hR as (fun y hy => ?_) (by omega)
      obtain ⟨i, hi, rfl⟩ := List.getElem_of_mem hy
      exact h2 i (by rw [List.length_range']; omega) hi
  and_intros
  refine g0 ?_
  and_intros
  by_cases c1 : kd = "aid"
  · rw [decide_eq_true c1]
    and_intros
    exact go 0 _ (by decide) rfl (fun _ => .inl c1)
  · rw [decide_eq_false c1]
    and_intros
    refine g0 ?_
    and_intros
    by_cases c2 : kd = "gift"
    · rw [decide_eq_true c2]
      and_intros
      exact go 0 _ (by decide) rfl (fun _ => .inr c2)
    · rw [decide_eq_false c2]
      and_intros
      exact go 1 _ (by decide) rfl (fun h => by cases h)
abbrev s_law_members : Stmt := topS 19
theorem sc_law_members : FnScope ["bag", "book", "due", "entries", "turn", "entry", "asked"] ["bag", "book", "due"] (defScope s_law_members) := ⟨rfl, rfl, rfl, by decide +kernel, rfl, by decide +kernel, by decide +kernel⟩
theorem ok_law_members {f : Addr} {fd : FuncData} {C_Book : Addr} (F : Fun K "_law_members" "_law_members" s_law_members f fd) (T : Bi mg) (c_Book___contains : CalM P w K mg base C_Book "__contains__" 1 ["self", "entry"] (.own 0) [] (w_Book___contains C_Book)) (c_law_draw : Cal P w K mg base "_law_draw" 1 ["bag", "size"] (.own 0) [] wDraw) (c_law_near : Cal P w K mg base "_law_near" 2 ["entry"] (.own 0) [] w_law_near) : FnOk P w K mg base CX0 3 f fd ["bag", "book", "due"] (spD K (.own 0) (w_law_members C_Book)) := by
  refine Fun_okD F sc_law_members (fun _ _ _ h => by obtain ⟨_, _, _, e, _, _, _⟩ := h; rw [e]; rfl) fun B cdv A outer s H E hr => ⟨_, (ds_cons (ds_setM 3 0 sc_law_members.nd rfl (by first | exact Or.inl rfl | exact Or.inr rfl) (by decide) (dm_of (de_frz (de_listL T.list_ (de_v 2)))))
(ds_cons (ds_for PassesOwn.never rfl (di_range T.range_ (de_min2 (m := .rd) rfl T.min_ (de_int (m := .rd)) (de_len (m := .rd) T.len_ (de_v 2)))) (dg_name 4 sc_law_members.nd rfl (by first | exact Or.inl rfl | exact Or.inr rfl) (by decide))
(ds_one (ds_setM 3 0 sc_law_members.nd rfl (by first | exact Or.inl rfl | exact Or.inr rfl) (by decide) (dm_of (de_frz (de_cat (de_v 3) (de_C c_law_near hr (da_cons (m := .own 0) (de_at (de_v 2) (de_C c_law_draw hr (da_cons (m := .own 0) (de_v 0) (da_cons (m := .own 0) (de_len (m := .own 0) T.len_ (de_v 2)) da_nil)))) da_nil))))))))
(ds_cons (ds_for PassesOwn.never rfl (di_list (de_v 3)) (dg_name 5 sc_law_members.nd rfl (by first | exact Or.inl rfl | exact Or.inr rfl) (by decide))
(ds_cons (ds_setM 6 0 sc_law_members.nd rfl (by first | exact Or.inl rfl | exact Or.inr rfl) (by decide) (dm_of (de_tupL T.tuple_ (de_frz (de_listT T.list_ (de_v 5))))))
(ds_one (ds_if (dt_bool (dw_or (dt_ne (de_ownIn (m := .rd) c_Book___contains hr (de_v 6) (de_v 1)) (de_inD (m := .rd) (hr.u 65) (de_v 5) (de_v 2))) (dw_or1 (dt_ne (de_ownNotin (m := .rd) c_Book___contains hr (de_v 6) (de_v 1)) (de_notinD (m := .rd) (hr.u 65) (de_v 5) (de_v 2))))))
(ds_one (ds_retM (dm_of (de_bl (m := .own 0)))))
ds_nil))))
(ds_one (ds_retM (dm_of (de_bl (m := .own 0)))))))), fun ds R ⟨b, r, hb, e, ok, hl, hR⟩ => ?_⟩
  subst e
  and_intros
  rw [List.length_map]
  rw [show (if (r.length : Int) < 3 then (r.length : Int) else 3) = ((min r.length 3 : Nat) : Int) from by split <;> omega]
  refine rng_go (by omega) ?_
  refine forD_pre (l := List.range' 0 (min r.length 3)) (ι := natD) (fun dn ks ρ => ∃ (es : List Ent) (p : Option (Nat × D)), (∀ e ∈ es, EnOk e) ∧ es.length ≤ r.length + 6 * dn.length ∧ ρ = [some (0, .raw (.ref b)), some (0, bkD C_Book r), some (0, .lst (r.map enD)), some (0, .lst (es.map enD)), p, none, none]) ⟨r, none, ok, by simp, rfl⟩ ?_ ?_
  · rintro dn k ks ρ hd ⟨es, p, h1, h2, rfl⟩ N hN
    have hl3 := congrArg List.length hd
    rw [List.length_append, List.length_cons, List.length_range'] at hl3
    refine ⟨_, rfl, ?_⟩
    and_intros
    rw [List.length_map]
    refine drawN r.length hb (by omega) (by omega) fun v hv => ?_
    refine gIx_nat (mapg hv) ?_
    refine ⟨r[v], rfl, ok _ (List.getElem_mem hv), fun q hq hq6 => ?_⟩
    refine gCat_go (f := enD) (a := es) (b := q) (by rw [szL]; omega) ?_
    refine hN _ ⟨es ++ q, _, fun e he => ?_, by rw [List.length_append, List.length_append, List.length_singleton]; omega, rfl⟩
    rcases List.mem_append.mp he with z | z
    · exact h1 e z
    · exact (hq e z).1
  · rintro ρ ⟨es, p, h1, h2, rfl⟩
    rw [List.length_range'] at h2
    and_intros
    refine forD_map (l := es) (ι := enD) (fun l2 ρ => ∃ (u w : Option (Nat × D)), (∀ e ∈ l2, EnOk e) ∧ ρ = [some (0, .raw (.ref b)), some (0, bkD C_Book r), some (0, .lst (r.map enD)), some (0, .lst (es.map enD)), p, u, w]) ⟨none, none, h1, rfl⟩ ?_ ?_
    · rintro x l2 ρ ⟨u, w, h3, rfl⟩ N hN
      have hx := h3 x List.mem_cons_self
      refine ⟨_, rfl, ?_⟩
      and_intros
      refine (show ∀ {Q : D → Prop}, Q (.lst (x.map keyD)) → gListT [.tup (x.map keyD)] Q from fun q => q) ?_
      refine (show ∀ {Q : D → Prop}, Q (.tup (x.map keyD)) → gTupL [.lst (x.map keyD)] Q from fun q => q) ?_
      have gi : ∀ (n : Bool) {Q : D → Prop}, (∀ c : Bool, (c = true ↔ x ∈ r) → Q (.bl (n ^^ c))) → gInD n (enD x) (.lst (r.map enD)) Q := fun n {Q} q => by
        refine gInD_go (α := Ent) (ι := enD) (x := x) enD_inj pn_en (ok_en (n := 62) hx.so) (fun y hy => ok_en (n := 62) (ok y hy).so) ?_
        exact q _ (dec_iff _)
      and_intros
      refine ⟨rfl, r, x, rfl, ok, hx, fun c hc => ⟨c, rfl, ?_⟩⟩
      refine gi false fun c2 hc2 => ?_
      have e2 : c2 = c := by
        have := hc2.trans hc.symm
        cases c <;> cases c2 <;> simp_all
      subst e2
      and_intros
      refine ⟨rfl, r, x, rfl, ok, hx, fun c3 hc3 => ⟨c3, rfl, ?_⟩⟩
      have e3 : c3 = c2 := by
        have := hc3.trans hc.symm
        cases c3 <;> cases c2 <;> simp_all
      subst e3
      refine gi true fun c4 hc4 => ?_
      have e4 : c4 = c3 := by
        have := hc4.trans hc.symm
        cases c3 <;> cases c4 <;> simp_all
      subst e4
      and_intros
      exact hN _ ⟨_, _, fun e he => h3 e (List.mem_cons_of_mem _ he), rfl⟩
    · rintro ρ ⟨u, w, _, rfl⟩
      and_intros
      exact hR
abbrev s_law_compared : Stmt := topS 20
theorem sc_law_compared : FnScope ["bag", "book", "due", "fresh", "same", "at", "rest", "entry", "thing"] ["bag", "book", "due"] (defScope s_law_compared) := ⟨rfl, rfl, rfl, by decide +kernel, rfl, by decide +kernel, by decide +kernel⟩
theorem ok_law_compared {f : Addr} {fd : FuncData} {de_Book___init_0 : Addr} {C_Book : Addr} (F : Fun K "_law_compared" "_law_compared" s_law_compared f fd) (T : Bi mg) (c_Book : CalK P w K mg base "Book" C_Book 2 1 ["self", "entries"] (.own 0) [] (w_Book_init C_Book de_Book___init_0)) (c_Book_tell : CalMM P w K mg base C_Book "tell" 2 1 ["self", "entry"] (.own 0) [] (w_Book_tell C_Book)) (c_law_alike : Cal P w K mg base "_law_alike" 3 ["first", "second"] (.own 0) [] (w_law_alike C_Book)) (c_law_apart : Cal P w K mg base "_law_apart" 3 ["first", "second"] (.own 0) [] (w_law_apart C_Book)) (c_law_draw : Cal P w K mg base "_law_draw" 1 ["bag", "size"] (.own 0) [] wDraw) (c_law_fresh : Cal P w K mg base "_law_fresh" 1 ["rows"] (.own 0) [] w_law_fresh) (c_law_has_just : Cal P w K mg base "_law_has_just" 5 ["book", "due"] (.own 0) [] (w_law_has_just C_Book)) (c_law_mixed : Cal P w K mg base "_law_mixed" 2 ["bag", "rows"] (.own 0) [] w_law_mixed) (c_law_near : Cal P w K mg base "_law_near" 2 ["entry"] (.own 0) [] w_law_near) (c_law_order : Cal P w K mg base "_law_order" 1 ["rows"] (.own 0) [] w_law_order) : FnOk P w K mg base CX0 6 f fd ["bag", "book", "due"] (spD K (.own 0) (w_law_compared C_Book de_Book___init_0)) := by
  refine Fun_okD F sc_law_compared (fun _ _ _ h => by obtain ⟨_, _, _, e, _, _, _, _, _⟩ := h; rw [e]; rfl) fun B cdv A outer s H E hr => ⟨_, (ds_cons (ds_setM 3 0 sc_law_compared.nd rfl (by first | exact Or.inl rfl | exact Or.inr rfl) (by decide) (dm_of (de_C c_law_fresh hr (da_cons (m := .own 0) (de_v 2) da_nil))))
(ds_cons (ds_setM 4 2 sc_law_compared.nd rfl (by first | exact Or.inl rfl | exact Or.inr rfl) (by decide) (dm_of (de_Ck c_Book hr (da_cons (m := .own 0) (de_C c_law_mixed hr (da_cons (m := .own 0) (de_v 0) (da_cons (m := .own 0) (de_v 2) da_nil))) da_nil))))
(ds_cons (ds_if (dt_bool (dw_or (dt_not (dt_val (de_CR (n := 0) c_law_alike hr (da_cons (m := .rd) (de_rd (de_v 1)) (da_cons (m := .rd) (de_rd (de_var 4 2)) da_nil))))) (dw_or (dt_not (dt_val (de_C c_law_alike hr (da_cons (m := .own 0) (de_v 1) (da_cons (m := .own 0) (de_v 1) da_nil))))) (dw_or1 (dt_not (dt_val (de_C c_law_apart hr (da_cons (m := .own 0) (de_v 1) (da_cons (m := .own 0) (de_frz (de_Ck c_Book hr (da_cons (m := .own 0) (de_frz (de_cat (de_v 2) (de_frz (de_lst 0 (da_cons (m := .own 0) (de_v 3) da_nil))))) da_nil))) da_nil)))))))))
(ds_one (ds_retM (dm_of (de_bl (m := .own 0)))))
ds_nil)
(ds_cons (ds_if (dt_gt (de_len (m := .rd) T.len_ (de_v 2)) (de_int (m := .rd)))
(ds_cons (ds_setM 5 0 sc_law_compared.nd rfl (by first | exact Or.inl rfl | exact Or.inr rfl) (by decide) (dm_of (de_C c_law_draw hr (da_cons (m := .own 0) (de_v 0) (da_cons (m := .own 0) (de_len (m := .own 0) T.len_ (de_v 2)) da_nil)))))
(ds_cons (ds_setM 6 0 sc_law_compared.nd rfl (by first | exact Or.inl rfl | exact Or.inr rfl) (by decide) (dm_of (de_frz (de_cat (de_frz (de_slL (de_v 2) do_none (do_some (de_v 5)))) (de_frz (de_slL (de_v 2) (do_some (de_add (m := .rd) (de_v 5) (de_int (m := .rd)))) do_none))))))
(ds_cons (ds_if (dt_bool (dw_or (dt_not (dt_val (de_C c_law_apart hr (da_cons (m := .own 0) (de_v 1) (da_cons (m := .own 0) (de_frz (de_Ck c_Book hr (da_cons (m := .own 0) (de_v 6) da_nil))) da_nil))))) (dw_or1 (dt_not (dt_val (de_C c_law_apart hr (da_cons (m := .own 0) (de_v 1) (da_cons (m := .own 0) (de_frz (de_Ck c_Book hr (da_cons (m := .own 0) (de_frz (de_cat (de_v 6) (de_frz (de_lst 0 (da_cons (m := .own 0) (de_v 3) da_nil))))) da_nil))) da_nil))))))))
(ds_one (ds_retM (dm_of (de_bl (m := .own 0)))))
ds_nil)
(ds_one (ds_for PassesOwn.never rfl (di_list (de_C c_law_near hr (da_cons (m := .own 0) (de_at (de_v 2) (de_v 5)) da_nil))) (dg_name 7 sc_law_compared.nd rfl (by first | exact Or.inl rfl | exact Or.inr rfl) (by decide))
(ds_one (ds_if (dt_not (dt_val (de_C c_law_apart hr (da_cons (m := .own 0) (de_v 1) (da_cons (m := .own 0) (de_frz (de_Ck c_Book hr (da_cons (m := .own 0) (de_frz (de_cat (de_v 6) (de_frz (de_lst 0 (da_cons (m := .own 0) (de_v 7) da_nil))))) da_nil))) da_nil)))))
(ds_one (ds_retM (dm_of (de_bl (m := .own 0)))))
ds_nil)))))))
ds_nil)
(ds_cons (ds_for PassesOwn.never rfl (di_list (de_frz (de_lst 0 (da_cons (m := .own 0) (de_frz (de_listL T.list_ (de_v 2))) (da_cons (m := .own 0) (de_tupL T.tuple_ (de_v 2)) (da_cons (m := .own 0) (de_non (m := .own 0)) (da_cons (m := .own 0) (de_str (m := .own 0)) (da_cons (m := .own 0) (de_len (m := .own 0) T.len_ (de_v 2)) da_nil)))))))) (dg_name 8 sc_law_compared.nd rfl (by first | exact Or.inl rfl | exact Or.inr rfl) (by decide))
(ds_one (ds_if (dt_not (dt_val (de_C c_law_apart hr (da_cons (m := .own 0) (de_v 1) (da_cons (m := .own 0) (de_v 8) da_nil)))))
(ds_one (ds_retM (dm_of (de_bl (m := .own 0)))))
ds_nil)))
(ds_cons (ds_exprM (dm_CM _ c_Book_tell hr (dp_var 4) (da_cons (m := .own 0) (de_v 3) da_nil)))
(ds_one (ds_frz 4 (ds_retM (dm_of (de_and (m := .own 0) (de_C c_law_apart hr (da_cons (m := .own 0) (de_v 4) (da_cons (m := .own 0) (de_v 1) da_nil))) (de_and (m := .own 0) (de_C c_law_has_just hr (da_cons (m := .own 0) (de_v 4) (da_cons (m := .own 0) (de_C c_law_order hr (da_cons (m := .own 0) (de_frz (de_cat (de_v 2) (de_frz (de_lst 0 (da_cons (m := .own 0) (de_v 3) da_nil))))) da_nil)) da_nil))) (de_one (de_C c_law_has_just hr (da_cons (m := .own 0) (de_v 1) (da_cons (m := .own 0) (de_v 2) da_nil)))))))))))))))), fun ds R ⟨b, r, hb, e, ok, nd, so, hl, hR⟩ => ?_⟩
  subst e
  have inr : ∀ {es : List Ent} (x : Ent), x ∈ es → x ∉ r → r ≠ ordE es := fun {es} x h1 h2 e => h2 (by rw [e]; exact ordE_mem.mpr h1)
  have outr : ∀ {es : List Ent} (x : Ent), x ∉ es → x ∈ r → r ≠ ordE es := fun {es} x h1 h2 e => h1 (ordE_mem.mp (by rw [← e]; exact h2))
  refine seq_cut3 (fun ρ => ∃ x0, EnOk x0 ∧ x0 ∉ r ∧ ρ = [some (0, .raw (.ref b)), some (0, bkD C_Book r), some (0, .lst (r.map enD)), some (0, enD x0), some (2, bkD C_Book r), none, none, none, none]) (fun N3 g3 => ?_) ?_
  · and_intros
    refine ⟨r, rfl, ok, by omega, fun x0 hx0 hn0 => ?_⟩
    refine ⟨b, r, hb, rfl, by omega, fun q hq => ?_⟩
    have eq : ordE q = r := (ordE_congr ok fun e => hq.mem_iff).trans so
    refine ⟨_, q, rfl, rfl, .inl (.inl rfl), fun e he => ok e (hq.mem_iff.mp he), by rw [hq.length_eq]; omega, rfl, ?_⟩
    rw [eq]
    refine ⟨r, rfl, ok, by omega, rfl, ?_⟩
    and_intros
    refine ⟨r, rfl, ok, by omega, ?_⟩
    and_intros
    refine ⟨by decide, gCat_go (f := enD) (a := r) (b := [x0]) (by rw [szL, List.length_singleton]; omega) ?_⟩
    have o3 : ∀ e ∈ r ++ [x0], EnOk e := fun e he => (List.mem_append.mp he).elim (ok e) fun z => by rw [List.mem_singleton.mp z]; exact hx0
    have l3 : (r ++ [x0]).length ≤ 400 := by rw [List.length_append, List.length_singleton]; omega
    refine ⟨_, r ++ [x0], rfl, rfl, .inl (.inl rfl), o3, l3, rfl, ?_⟩
    refine ⟨r, _, rfl, ok, by omega, .inl ⟨_, rfl, fun e he => o3 e (ordE_mem.mp he), Nat.le_trans (ordE_len _) l3, inr x0 (by simp) hn0⟩, ?_⟩
    and_intros
    exact g3 _ ⟨x0, hx0, hn0, rfl⟩
  rintro ρ ⟨x0, hx0, hn0, rfl⟩
  refine seq_cut (fun ρ => ∃ (p5 p6 p7 : Option (Nat × D)), ρ = [some (0, .raw (.ref b)), some (0, bkD C_Book r), some (0, .lst (r.map enD)), some (0, enD x0), some (2, bkD C_Book r), p5, p6, p7, none]) (fun N3 g3 => ?_) ?_
  · and_intros
    rw [List.length_map]
    by_cases h0 : 0 < r.length
    · rw [decide_eq_true (by omega)]
      and_intros
      refine drawN r.length hb h0 (by omega) fun v hv => ?_
      and_intros
      refine gSlL_take (k := v) ?_
      and_intros
      refine gSlL_drop (k := v + 1) ?_
      refine gCat_go (by rw [List.length_take, List.length_drop, szL]; omega) ?_
      have rm : ∀ e, e ∈ r.take v ++ r.drop (v + 1) → e ∈ r := fun e he => (List.mem_append.mp he).elim List.mem_of_mem_take List.mem_of_mem_drop
      have rn : r[v] ∉ r.take v ++ r.drop (v + 1) := fun z => by
        have e : r.take v ++ r[v] :: r.drop (v + 1) = r := by rw [← List.drop_eq_getElem_cons hv, List.take_append_drop]
        have nd2 := nd
        rw [← e] at nd2
        obtain ⟨_, n2, n3⟩ := List.nodup_append.mp nd2
        rcases List.mem_append.mp z with z | z
        · exact n3 _ z _ List.mem_cons_self rfl
        · exact (List.nodup_cons.mp n2).1 z
      have rl : (r.take v ++ r.drop (v + 1)).length ≤ 72 := by rw [List.length_append, List.length_take, List.length_drop]; omega
      revert rm rn rl
      generalize r.take v ++ r.drop (v + 1) = rest
      intro rm rn rl
      have hv2 := List.getElem_mem hv
      have bk : ∀ (es : List Ent) (Q : D → Prop), (∀ e ∈ es, EnOk e) → es.length ≤ 100 → r ≠ ordE es → Q (.bl true) → w_Book_init C_Book de_Book___init_0 (D.obj C_Book []) [.lst (es.map enD)] fun d s => d = .non ∧ w_law_apart C_Book B [bkD C_Book r, s] Q := fun es Q h1 h2 h3 h4 =>
        ⟨_, es, rfl, rfl, .inl (.inl rfl), h1, by omega, rfl, r, _, rfl, ok, by omega, .inl ⟨_, rfl, fun e he => h1 e (ordE_mem.mp he), Nat.le_trans (ordE_len _) (by omega), h3⟩, h4⟩
      have oka : ∀ y, EnOk y → ∀ e ∈ rest ++ [y], EnOk e := fun y hy e he => (List.mem_append.mp he).elim (fun z => ok e (rm e z)) fun z => by rw [List.mem_singleton.mp z]; exact hy
      refine bk rest _ (fun e he => ok e (rm e he)) (by omega) (outr r[v] rn hv2) ?_
      and_intros
      refine ⟨by decide, gCat_go (f := enD) (a := rest) (b := [x0]) (by rw [szL, List.length_singleton]; omega) ?_⟩
      refine bk (rest ++ [x0]) _ (oka x0 hx0) (by rw [List.length_append, List.length_singleton]; omega) (inr x0 (by simp) hn0) ?_
      and_intros
      refine gIx_nat (mapg hv) ?_
      refine ⟨r[v], rfl, ok _ hv2, fun q hq hq6 => ?_⟩
      and_intros
      refine forD_map (l := q) (ι := enD) (fun l2 ρ => ∃ (p7 : Option (Nat × D)), (∀ y ∈ l2, EnOk y ∧ y ≠ r[v]) ∧ ρ = [some (0, .raw (.ref b)), some (0, bkD C_Book r), some (0, .lst (r.map enD)), some (0, enD x0), some (2, bkD C_Book r), some (0, natD v), some (0, .lst (rest.map enD)), p7, none]) ⟨none, hq, rfl⟩ ?_ ?_
      · rintro y l2 ρ ⟨p7, h3, rfl⟩ N hN
        obtain ⟨hy1, hy2⟩ := h3 y List.mem_cons_self
        refine ⟨_, rfl, ?_⟩
        and_intros
        refine ⟨by decide, gCat_go (f := enD) (a := rest) (b := [y]) (by rw [szL, List.length_singleton]; omega) ?_⟩
        refine bk (rest ++ [y]) _ (oka y hy1) (by rw [List.length_append, List.length_singleton]; omega) (outr r[v] (fun z => ?_) hv2) ?_
        · rcases List.mem_append.mp z with z | z
          · exact rn z
          · exact hy2 (List.mem_singleton.mp z).symm
        and_intros
        exact hN _ ⟨_, fun e he => h3 e (List.mem_cons_of_mem _ he), rfl⟩
      · rintro ρ ⟨p7, _, rfl⟩
        exact g3 _ ⟨_, _, _, rfl⟩
    · rw [decide_eq_false (by omega)]
      and_intros
      exact g3 _ ⟨_, _, _, rfl⟩
  rintro ρ ⟨p5, p6, p7, rfl⟩
  and_intros
  refine ⟨by decide, ?_⟩
  refine forD_go (fun ds ρ => ∃ (p8 : Option (Nat × D)), (∀ d ∈ ds, strgD d ∧ clsB C_Book d = some false) ∧ ρ = [some (0, .raw (.ref b)), some (0, bkD C_Book r), some (0, .lst (r.map enD)), some (0, enD x0), some (2, bkD C_Book r), p5, p6, p7, p8]) ?_ ?_ _ _ ⟨none, ?_, rfl⟩
  · rintro d ds ρ ⟨p8, hd, rfl⟩ N hN
    refine ⟨_, rfl, ?_⟩
    and_intros
    refine ⟨r, d, rfl, ok, by omega, .inr (hd d List.mem_cons_self), ?_⟩
    and_intros
    exact hN _ ⟨_, fun e he => hd e (List.mem_cons_of_mem _ he), rfl⟩
  · rintro ρ ⟨p8, -, rfl⟩
    and_intros
    have io : isObjD C_Book "tell" (bkD C_Book r) := ⟨rfl, rfl⟩
    refine ⟨⟨_, rfl, rfl, io, trivial⟩, ⟨_, rfl, rfl, io, ?_⟩⟩
    refine ⟨r, x0, rfl, rfl, ok, hx0, by omega, ?_⟩
    have o3 : ∀ e ∈ r ++ [x0], EnOk e := fun e he => (List.mem_append.mp he).elim (ok e) fun z => by rw [List.mem_singleton.mp z]; exact hx0
    have l3 : (r ++ [x0]).length ≤ 80 := by rw [List.length_append, List.length_singleton]; omega
    have n3 : (r ++ [x0]).Nodup := List.nodup_append.mpr ⟨nd, List.pairwise_singleton _ _, fun a ha c hc e => by rw [List.mem_singleton.mp hc] at e; exact hn0 (e ▸ ha)⟩
    have o4 : ∀ e ∈ ordE (r ++ [x0]), EnOk e := fun e he => o3 e (ordE_mem.mp he)
    have l4 := ordE_len (r ++ [x0])
    and_intros
    refine ⟨_, _, rfl, o4, by omega, .inl ⟨r, rfl, ok, by omega, (inr x0 (by simp) hn0).symm⟩, ?_⟩
    and_intros
    refine ⟨by decide, gCat_go (f := enD) (a := r) (b := [x0]) (by rw [szL, List.length_singleton]; omega) ?_⟩
    refine ⟨_, rfl, o3, n3, by omega, ?_⟩
    refine ⟨_, rfl, o4, by omega, ?_⟩
    and_intros
    refine ⟨r, rfl, ok, by omega, ?_⟩
    and_intros
    exact hR
  · intro d hd
    simp only [List.mem_cons, List.not_mem_nil, or_false] at hd
    rcases hd with rfl | rfl | rfl | rfl | rfl <;> exact ⟨trivial, rfl⟩
abbrev s_law_joined : Stmt := topS 21
theorem sc_law_joined : FnScope ["book", "due", "other", "due_other", "both", "entry", "union", "fresh"] ["book", "due", "other", "due_other"] (defScope s_law_joined) := ⟨rfl, rfl, rfl, by decide +kernel, rfl, by decide +kernel, by decide +kernel⟩
theorem ok_law_joined {f : Addr} {fd : FuncData} {C_Book : Addr} {de_Book___init_0 : Addr} (F : Fun K "_law_joined" "_law_joined" s_law_joined f fd) (T : Bi mg) (sf_Book : PySem.W.selfFirst K C_Book = true) (c_Book_0 : CalK P w K mg base "Book" C_Book 2 1 ["self", "entries"] (.own 0) [.raw (.ref de_Book___init_0)] (w_Book_init C_Book de_Book___init_0)) (c_Book___or : CalM P w K mg base C_Book "__or__" 4 ["self", "other"] (.own 2) [] (w_Book___or C_Book de_Book___init_0)) (c_Book_tell : CalMM P w K mg base C_Book "tell" 2 1 ["self", "entry"] (.own 0) [] (w_Book_tell C_Book)) (c_law_alike : Cal P w K mg base "_law_alike" 3 ["first", "second"] (.own 0) [] (w_law_alike C_Book)) (c_law_fresh : Cal P w K mg base "_law_fresh" 1 ["rows"] (.own 0) [] w_law_fresh) (c_law_has_just : Cal P w K mg base "_law_has_just" 5 ["book", "due"] (.own 0) [] (w_law_has_just C_Book)) (c_law_order : Cal P w K mg base "_law_order" 1 ["rows"] (.own 0) [] w_law_order) : FnOk P w K mg base CX0 6 f fd ["book", "due", "other", "due_other"] (spD K (.own 0) (w_law_joined C_Book de_Book___init_0)) := by
  refine Fun_okD F sc_law_joined (fun _ _ _ h => by obtain ⟨_, _, e, _, _, _, _, _, _, _, _⟩ := h; rw [e]; rfl) fun B cdv A outer s H E hr => ⟨_, (ds_cons (ds_setM 4 2 sc_law_joined.nd rfl (by first | exact Or.inl rfl | exact Or.inr rfl) (by decide) (dm_of (de_ownBin c_Book___or sf_Book hr (de_v 0) (de_v 2))))
(ds_cons (ds_setM 6 0 sc_law_joined.nd rfl (by first | exact Or.inl rfl | exact Or.inr rfl) (by decide) (dm_of (de_C c_law_order hr (da_cons (m := .own 0) (de_frz (de_cat (de_v 1) (de_frz (de_lc (own := [("entry", 5)]) 0 rfl sc_law_joined.nd (di_list (de_v 3)) (blk_of ["book", "due", "other", "due_other", "both", "entry", "union", "fresh"] (defScope s_law_joined) rfl (by decide +kernel) (by decide +kernel) (by decide +kernel) (by decide +kernel)) (dgc_name 5 sc_law_joined.nd rfl) (hol_cons rfl (fun _ _ => rfl) hol_nil) (fun _ _ _ _ _ => dts_one (dt_notinD (hr.u 65) (de_v 5) (de_v 1))) (fun _ _ _ _ _ => (de_v 5)))))) da_nil))))
(ds_cons (ds_setM 7 0 sc_law_joined.nd rfl (by first | exact Or.inl rfl | exact Or.inr rfl) (by decide) (dm_of (de_C c_law_fresh hr (da_cons (m := .own 0) (de_v 6) da_nil))))
(ds_cons (ds_if (dt_bool (dw_or (dt_not (dt_val (de_CR (n := 0) c_law_has_just hr (da_cons (m := .rd) (de_rd (de_var 4 2)) (da_cons (m := .rd) (de_rd (de_v 6)) da_nil))))) (dw_or (dt_not (dt_val (de_CR (n := 0) c_law_alike hr (da_cons (m := .rd) (de_rd (de_var 4 2)) (da_cons (m := .rd) (de_rd (de_ownBin c_Book___or sf_Book hr (de_v 2) (de_v 0))) da_nil))))) (dw_or1 (dt_not (dt_val (de_C c_law_alike hr (da_cons (m := .own 0) (de_frz (de_ownBin c_Book___or sf_Book hr (de_v 0) (de_frz (de_Ck0 c_Book_0 hr)))) (da_cons (m := .own 0) (de_v 0) da_nil)))))))))
(ds_one (ds_retM (dm_of (de_bl (m := .own 0)))))
ds_nil)
(ds_cons (ds_if (dt_bool (dw_or (dt_not (dt_val (de_C c_law_has_just hr (da_cons (m := .own 0) (de_frz (de_ownBin c_Book___or sf_Book hr (de_frz (de_Ck0 c_Book_0 hr)) (de_v 2))) (da_cons (m := .own 0) (de_v 3) da_nil))))) (dw_or1 (dt_not (dt_val (de_C c_law_has_just hr (da_cons (m := .own 0) (de_frz (de_ownBin c_Book___or sf_Book hr (de_v 0) (de_v 0))) (da_cons (m := .own 0) (de_v 1) da_nil))))))))
(ds_one (ds_retM (dm_of (de_bl (m := .own 0)))))
ds_nil)
(ds_cons (ds_ifM (dtm_bool (dwm_or (dtm_isnot (dm_CM _ c_Book_tell hr (dp_var 4) (da_cons (m := .own 0) (de_v 7) da_nil)) de_non) (dwm_or1 (dtm_of (dt_not (dt_val (de_CR (n := 0) c_law_has_just hr (da_cons (m := .rd) (de_rd (de_var 4 2)) (da_cons (m := .rd) (de_rd (de_C c_law_order hr (da_cons (m := .own 0) (de_frz (de_cat (de_v 6) (de_frz (de_lst 0 (da_cons (m := .own 0) (de_v 7) da_nil))))) da_nil))) da_nil)))))))))
(ds_one (ds_retM (dm_of (de_bl (m := .own 0)))))
ds_nil)
(ds_one (ds_retM (dm_of (de_and (m := .own 0) (de_C c_law_has_just hr (da_cons (m := .own 0) (de_v 0) (da_cons (m := .own 0) (de_v 1) da_nil))) (de_and (m := .own 0) (de_C c_law_has_just hr (da_cons (m := .own 0) (de_v 2) (da_cons (m := .own 0) (de_v 3) da_nil))) (de_one (de_C c_law_has_just hr (da_cons (m := .own 0) (de_frz (de_ownBin c_Book___or sf_Book hr (de_v 0) (de_v 2))) (da_cons (m := .own 0) (de_v 6) da_nil))))))))))))))), fun ds R ⟨r, q, e, ok, ok2, nd, nd2, so, so2, hl, hR⟩ => ?_⟩
  subst e
  have okU : ∀ e ∈ ordE (r ++ q), EnOk e := fun e he => app_ok ok ok2 e (ordE_mem.mp he)
  have lenU : (ordE (r ++ q)).length ≤ 150 := Nat.le_trans (ordE_len _) (by rw [List.length_append]; omega)
  have orr : ∀ (a c : List Ent) (Q : D → Prop), (∀ e ∈ a, EnOk e) → (∀ e ∈ c, EnOk e) → a.length + c.length ≤ 400 → Q (bkD C_Book (ordE (a ++ c))) → isObj C_Book (bkD C_Book a) ∧ isObj C_Book (bkD C_Book c) ∧ w_Book___or C_Book de_Book___init_0 B [bkD C_Book a, bkD C_Book c] Q := fun a c Q h1 h2 h3 h4 => ⟨rfl, rfl, a, c, rfl, h1, h2, h3, h4⟩
  have hj : ∀ (a : List Ent) (Q : D → Prop), (∀ e ∈ a, EnOk e) → a.length ≤ 400 → Q (.bl true) → w_law_has_just C_Book B [bkD C_Book a, .lst (a.map enD)] Q := fun a Q h1 h2 h3 => ⟨a, rfl, h1, h2, h3⟩
  refine seq_cut3 (fun ρ => ∃ (x0 : Ent), EnOk x0 ∧ x0 ∉ ordE (r ++ q) ∧ ρ = [some (0, bkD C_Book r), some (0, .lst (r.map enD)), some (0, bkD C_Book q), some (0, .lst (q.map enD)), some (2, bkD C_Book (ordE (r ++ q))), none, some (0, .lst ((ordE (r ++ q)).map enD)), some (0, enD x0)]) (fun N3 g3 => ?_) ?_
  · and_intros
    refine orr r q _ ok ok2 (by omega) ?_
    refine compD_fil (fun e => !memB r e) enD (fun x hx => ⟨_, rfl, fun N hN => ?_, fun _ N hN => ?_⟩) (by rw [szL]; omega) ?_
    · and_intros
      refine gInE (ok2 x hx) ok ?_
      rw [Bool.true_xor]
      exact hN
    · and_intros
      exact hN
    have fl : (q.filter fun e => !memB r e).length ≤ q.length := List.length_filter_le _ _
    refine gCat_go (by rw [szL]; omega) ?_
    have okF : ∀ e ∈ r ++ q.filter (fun e => !memB r e), EnOk e := app_ok ok fun e he => ok2 e (List.mem_filter.mp he).1
    have ndF : (r ++ q.filter (fun e => !memB r e)).Nodup := List.nodup_append.mpr ⟨nd, nd2.filter _, fun a ha c hc e => by
      have h1 := (List.mem_filter.mp hc).2
      rw [← e, memB_iff.mpr ha] at h1
      cases h1⟩
    refine ⟨_, rfl, okF, ndF, by rw [List.length_append]; omega, ?_⟩
    have eU : ordE (r ++ q.filter fun e => !memB r e) = ordE (r ++ q) := ordE_congr (app_ok ok ok2) fun e => by
      rw [List.mem_append, List.mem_append, List.mem_filter]
      constructor
      · rintro (h | h)
        · exact .inl h
        · exact .inr h.1
      · rintro (h | h)
        · exact .inl h
        · by_cases c : e ∈ r
          · exact .inl c
          · refine .inr ⟨h, ?_⟩
            cases z : memB r e with
            | false => rfl
            | true => exact absurd (memB_iff.mp z) c
    rw [eU]
    refine ⟨_, rfl, okU, by omega, fun x0 h1 h2 => ?_⟩
    exact g3 _ ⟨x0, h1, h2, rfl⟩
  rintro ρ ⟨x0, hx0, hn0, rfl⟩
  and_intros
  have nil : ∀ e ∈ ([] : List Ent), EnOk e := fun e h => nomatch h
  have emp : ∀ (Q : D → D → Prop), Q .non (bkD C_Book []) → w_Book_init C_Book de_Book___init_0 (D.obj C_Book []) [D.raw (V.ref de_Book___init_0)] Q := fun Q h => ⟨_, [], rfl, rfl, .inr ⟨rfl, rfl⟩, nil, by decide, by rw [ordE_nil]; exact h⟩
  refine hj _ _ okU (by omega) ⟨rfl, ?_⟩
  and_intros
  refine orr q r _ ok2 ok (by omega) ?_
  rw [show ordE (q ++ r) = ordE (r ++ q) from ordE_congr (app_ok ok ok2) fun e => by rw [List.mem_append, List.mem_append]; exact Or.comm]
  refine ⟨_, rfl, okU, by omega, rfl, ?_⟩
  and_intros
  refine emp _ ⟨rfl, ?_⟩
  refine orr r [] _ ok nil (by rw [List.length_nil]; omega) ?_
  rw [List.append_nil, so]
  refine ⟨r, rfl, ok, by omega, ?_⟩
  and_intros
  refine emp _ ⟨rfl, ?_⟩
  refine orr [] q _ nil ok2 (by rw [List.length_nil]; omega) ?_
  rw [List.nil_append, so2]
  refine hj q _ ok2 (by omega) ?_
  and_intros
  refine orr r r _ ok ok (by omega) ?_
  rw [show ordE (r ++ r) = r from (ordE_congr ok fun e => by rw [List.mem_append]; exact or_self_iff).trans so]
  refine hj r _ ok (by omega) ?_
  and_intros
  have io : isObjD C_Book "tell" (bkD C_Book (ordE (r ++ q))) := ⟨rfl, rfl⟩
  refine ⟨⟨_, rfl, rfl, io, trivial⟩, ⟨_, rfl, rfl, io, ?_⟩⟩
  refine ⟨_, x0, rfl, rfl, okU, hx0, by omega, ?_⟩
  have o3 := app_ok okU (one_ok hx0)
  have l3 : (ordE (r ++ q) ++ [x0]).length ≤ 151 := by rw [List.length_append, List.length_singleton]; omega
  have n3 := snoc_nd (ordE_nodup (r ++ q)) hn0
  have o4 : ∀ e ∈ ordE (ordE (r ++ q) ++ [x0]), EnOk e := fun e he => o3 e (ordE_mem.mp he)
  have l4 := ordE_len (ordE (r ++ q) ++ [x0])
  refine ⟨rfl, ?_⟩
  and_intros
  refine ⟨by decide, gCat_go (f := enD) (a := ordE (r ++ q)) (b := [x0]) (by rw [szL, List.length_singleton]; omega) ?_⟩
  refine ⟨_, rfl, o3, n3, by omega, ?_⟩
  refine ⟨_, rfl, o4, by omega, ?_⟩
  and_intros
  refine ⟨rfl, ?_⟩
  refine hj r _ ok (by omega) ?_
  and_intros
  refine hj q _ ok2 (by omega) ?_
  and_intros
  refine orr r q _ ok ok2 (by omega) ?_
  refine hj _ _ okU (by omega) ?_
  and_intros
  exact hR
abbrev s_law_cut : Stmt := topS 22
theorem sc_law_cut : FnScope ["bag", "book", "due", "days", "day", "fresh", "part", "entry", "keep"] ["bag", "book", "due"] (defScope s_law_cut) := ⟨rfl, rfl, rfl, by decide +kernel, rfl, by decide +kernel, by decide +kernel⟩
theorem ok_law_cut {f : Addr} {fd : FuncData} {de_Book___init_0 : Addr} {C_Book : Addr} (F : Fun K "_law_cut" "_law_cut" s_law_cut f fd) (T : Bi mg) (c_Book_tell : CalMM P w K mg base C_Book "tell" 2 1 ["self", "entry"] (.own 0) [] (w_Book_tell C_Book)) (c_Book_until : CalM P w K mg base C_Book "until" 4 ["self", "day"] (.own 2) [] (w_Book_until C_Book de_Book___init_0)) (c_law_draw : Cal P w K mg base "_law_draw" 1 ["bag", "size"] (.own 0) [] wDraw) (c_law_fresh : Cal P w K mg base "_law_fresh" 1 ["rows"] (.own 0) [] w_law_fresh) (c_law_has_just : Cal P w K mg base "_law_has_just" 5 ["book", "due"] (.own 0) [] (w_law_has_just C_Book)) (c_law_order : Cal P w K mg base "_law_order" 1 ["rows"] (.own 0) [] w_law_order) : FnOk P w K mg base CX0 6 f fd ["bag", "book", "due"] (spD K (.own 0) (w_law_cut C_Book de_Book___init_0)) := by
  refine Fun_okD F sc_law_cut (fun _ _ _ h => by obtain ⟨_, _, _, e, _, _, _, _, _⟩ := h; rw [e]; rfl) fun B cdv A outer s H E hr => ⟨_, (ds_cons (ds_setM 3 0 sc_law_cut.nd rfl (by first | exact Or.inl rfl | exact Or.inr rfl) (by decide) (dm_of (de_frz (de_lst 0 (da_cons (m := .own 0) (de_int (m := .own 0)) (da_cons (m := .own 0) (de_int (m := .own 0)) (da_cons (m := .own 0) (de_C c_law_draw hr (da_cons (m := .own 0) (de_v 0) (da_cons (m := .own 0) (de_int (m := .own 0)) da_nil))) da_nil)))))))
(ds_cons (ds_if (dt_gt (de_len (m := .rd) T.len_ (de_v 2)) (de_int (m := .rd)))
(ds_cons (ds_setM 4 0 sc_law_cut.nd rfl (by first | exact Or.inl rfl | exact Or.inr rfl) (by decide) (dm_of (de_at (de_at (de_v 2) (de_C c_law_draw hr (da_cons (m := .own 0) (de_v 0) (da_cons (m := .own 0) (de_len (m := .own 0) T.len_ (de_v 2)) da_nil)))) (de_int (m := .rd)))))
(ds_one (ds_setM 3 0 sc_law_cut.nd rfl (by first | exact Or.inl rfl | exact Or.inr rfl) (by decide) (dm_of (de_frz (de_cat (de_v 3) (de_frz (de_lst 0 (da_cons (m := .own 0) (de_max2 (m := .own 0) rfl T.max_ (de_int (m := .rd)) (de_sub (m := .rd) (de_v 4) (de_int (m := .rd)))) (da_cons (m := .own 0) (de_v 4) (da_cons (m := .own 0) (de_min2 (m := .own 0) rfl T.min_ (de_int (m := .rd)) (de_add (m := .rd) (de_v 4) (de_int (m := .rd)))) da_nil)))))))))))
ds_nil)
(ds_cons (ds_setM 5 0 sc_law_cut.nd rfl (by first | exact Or.inl rfl | exact Or.inr rfl) (by decide) (dm_of (de_C c_law_fresh hr (da_cons (m := .own 0) (de_v 2) da_nil))))
(ds_cons (ds_for PassesOwn.never rfl (di_list (de_v 3)) (dg_name 4 sc_law_cut.nd rfl (by first | exact Or.inl rfl | exact Or.inr rfl) (by decide))
(ds_cons (ds_setM 6 2 sc_law_cut.nd rfl (by first | exact Or.inl rfl | exact Or.inr rfl) (by decide) (dm_of (de_Cm _ c_Book_until hr (de_v 1) (da_cons (m := .own 0) (de_v 4) da_nil))))
(ds_cons (ds_setLc (own := [("entry", 7)]) 8 0 rfl sc_law_cut.nd rfl rfl (by decide) (sw_true rfl rfl rfl rfl) (di_list (de_v 2)) (blk_of ["bag", "book", "due", "days", "day", "fresh", "part", "entry", "keep"] (defScope s_law_cut) rfl (by decide +kernel) (by decide +kernel) (by decide +kernel) (by decide +kernel)) (dgc_name 7 sc_law_cut.nd rfl) (hol_cons rfl (fun _ _ => rfl) hol_nil) (fun _ _ _ _ _ => dts_one (dt_le (de_at (de_v 7) (de_int (m := .rd))) (de_v 4))) (fun _ _ _ _ _ => (de_v 7)))
(ds_cons (ds_frz 8 (ds_if (dt_not (dt_val (de_CR (n := 0) c_law_has_just hr (da_cons (m := .rd) (de_rd (de_var 6 2)) (da_cons (m := .rd) (de_rd (de_v 8)) da_nil)))))
(ds_one (ds_retM (dm_of (de_bl (m := .own 0)))))
ds_nil))
(ds_cons (ds_exprM (dm_CM _ c_Book_tell hr (dp_var 6) (da_cons (m := .own 0) (de_v 5) da_nil)))
(ds_one (ds_frz 6 (ds_if (dt_bool (dw_or (dt_not (dt_val (de_C c_law_has_just hr (da_cons (m := .own 0) (de_v 6) (da_cons (m := .own 0) (de_C c_law_order hr (da_cons (m := .own 0) (de_frz (de_cat (de_v 8) (de_frz (de_lst 0 (da_cons (m := .own 0) (de_v 5) da_nil))))) da_nil)) da_nil))))) (dw_or1 (dt_not (dt_val (de_C c_law_has_just hr (da_cons (m := .own 0) (de_v 1) (da_cons (m := .own 0) (de_v 2) da_nil))))))))
(ds_one (ds_retM (dm_of (de_bl (m := .own 0)))))
ds_nil))))))))
(ds_one (ds_retM (dm_of (de_bl (m := .own 0))))))))), fun ds R ⟨b, r, hb, e, ok, nd, so, hl, hR⟩ => ?_⟩
  subst e
  have hj : ∀ (a : List Ent) (Q : D → Prop), (∀ e ∈ a, EnOk e) → a.length ≤ 400 → Q (.bl true) → w_law_has_just C_Book B [bkD C_Book a, .lst (a.map enD)] Q := fun a Q h1 h2 h3 => ⟨a, rfl, h1, h2, h3⟩
  refine seq_cut3 (fun ρ => ∃ (ts : List Int) (p4 : Option (Nat × D)) (x0 : Ent), EnOk x0 ∧ x0 ∉ r ∧ ρ = [some (0, .raw (.ref b)), some (0, bkD C_Book r), some (0, .lst (r.map enD)), some (0, .lst (ts.map .int)), p4, some (0, enD x0), none, none, none]) (fun N3 g3 => ?_) ?_
  · and_intros
    refine drawN 10000 hb (by decide) (by decide) fun v _ => ⟨by decide, ?_⟩
    have last : ∀ (ts : List Int) (p4 : Option (Nat × D)), w_law_fresh B [.lst (r.map enD)] fun d => N3 [some (0, .raw (.ref b)), some (0, bkD C_Book r), some (0, .lst (r.map enD)), some (0, .lst (ts.map .int)), p4, some (0, d), none, none, none] := fun ts p4 => ⟨r, rfl, ok, by omega, fun x0 h1 h2 => g3 _ ⟨ts, p4, x0, h1, h2, rfl⟩⟩
    rw [List.length_map]
    by_cases h0 : 0 < r.length
    · rw [decide_eq_true (by omega)]
      and_intros
      refine drawN r.length hb h0 (by omega) fun a ha => ?_
      refine gIx_nat (mapg ha) ?_
      refine day_ix (ok _ (List.getElem_mem ha)) ?_
      and_intros
      refine ⟨by decide, ?_⟩
      refine gCat_go (f := D.int) (a := [0, 9999, (v : Int)]) (b := [_, _, _]) (by show 3 + 3 ≤ _; rw [szL]; omega) ?_
      and_intros
      exact last [0, 9999, (v : Int), _, _, _] _
    · rw [decide_eq_false (by omega)]
      and_intros
      exact last [0, 9999, (v : Int)] _
  rintro ρ ⟨ts, p4, x0, hx0, hn0, rfl⟩
  and_intros
  refine forD_map (l := ts) (ι := D.int) (fun l2 ρ => ∃ (p4 p6 p8 : Option (Nat × D)), ρ = [some (0, .raw (.ref b)), some (0, bkD C_Book r), some (0, .lst (r.map enD)), some (0, .lst (ts.map .int)), p4, some (0, enD x0), p6, none, p8]) ⟨p4, none, none, rfl⟩ ?_ ?_
  · rintro t l2 ρ ⟨p4, p6, p8, rfl⟩ N hN
    have okF : ∀ e ∈ r.filter (fun e => decide (day e ≤ t)), EnOk e := fun e he => ok e (List.mem_filter.mp he).1
    have lenF : (r.filter fun e => decide (day e ≤ t)).length ≤ r.length := List.length_filter_le _ _
    have ndF : (r.filter fun e => decide (day e ≤ t)).Nodup := nd.filter _
    refine ⟨_, rfl, ?_⟩
    and_intros
    have io : ∀ (mt : Str) (a : List Ent), (mt = "until" ∨ mt = "tell") → isObjD C_Book mt (bkD C_Book a) := fun mt a h => by rcases h with rfl | rfl <;> exact ⟨rfl, rfl⟩
    refine ⟨io _ _ (.inl rfl), r, t, rfl, ok, by omega, ?_⟩
    rw [ordE_filter ok so]
    and_intros
    refine compD_fil (fun e => decide (day e ≤ t)) enD (fun x hx => ⟨_, rfl, fun N hN => ?_, fun _ N hN => ?_⟩) (by rw [szL]; omega) ?_
    · and_intros
      refine day_ix (ok x hx) ?_
      and_intros
      exact hN
    · and_intros
      exact hN
    and_intros
    refine hj _ _ okF (by omega) ⟨rfl, ?_⟩
    and_intros
    refine ⟨⟨_, rfl, rfl, io _ _ (.inr rfl), trivial⟩, ⟨_, rfl, rfl, io _ _ (.inr rfl), ?_⟩⟩
    refine ⟨_, x0, rfl, rfl, okF, hx0, by omega, ?_⟩
    have hnF : x0 ∉ r.filter (fun e => decide (day e ≤ t)) := fun z => hn0 (List.mem_filter.mp z).1
    revert okF lenF ndF hnF
    generalize r.filter (fun e => decide (day e ≤ t)) = f
    intro okF lenF ndF hnF
    have o3 := app_ok okF (one_ok hx0)
    have l3 : (f ++ [x0]).length ≤ 80 := by rw [List.length_append, List.length_singleton]; omega
    have o4 : ∀ e ∈ ordE (f ++ [x0]), EnOk e := fun e he => o3 e (ordE_mem.mp he)
    have l4 := ordE_len (f ++ [x0])
    and_intros
    refine ⟨by decide, gCat_go (f := enD) (a := f) (b := [x0]) (by rw [szL, List.length_singleton]; omega) ?_⟩
    refine ⟨_, rfl, o3, snoc_nd ndF hnF, by omega, ?_⟩
    refine hj _ _ o4 (by omega) ?_
    and_intros
    refine hj r _ ok (by omega) ?_
    and_intros
    exact hN _ ⟨_, _, _, rfl⟩
  · rintro ρ ⟨p4, p6, p8, rfl⟩
    and_intros
    exact hR
end
end GK

namespace GK
open PySem PySem.Spec PyProof.Rows L2
abbrev sDraw : Stmt := topS 5
section
variable {P : Program} {w : World} {K : PySem.W.Frag} {mg : Str → Option Value} {base : Heap}
theorem scDraw : FnScope ["bag", "size", "turn", "at", "cell", "left", "number", "mixed"] ["bag", "size"] (defScope sDraw) := ⟨rfl, rfl, rfl, by decide +kernel, rfl, by decide +kernel, by decide +kernel⟩
theorem ok_draw {f : Addr} {fd : FuncData} (F : Fun K "_law_draw" "_law_draw" sDraw f fd) (mi : mg "int" = none) (ml : mg "len" = none) : FnOk P w K mg base CX0 1 f fd ["bag", "size"] (spD K m wDraw) := by
  refine F.ok scDraw (fun vs H Q E ⟨B, F, ds, R, w, r, ⟨b, size, hb, e, _⟩, k⟩ => by rw [r.length, e]; rfl) fun cdv A outer s H vs Q E hr ⟨B, F, ds, R, w, r, ⟨b, size, hb, e, h0, hz, hR⟩, k⟩ => ?_
  subst e
  obtain ⟨v0, v1, rfl, r0, r1⟩ : ∃ v0 v1, vs = [v0, v1] ∧ GK.R K F v0 (.raw (.ref b)) ∧ GK.R K F v1 (.int size) := by
    cases r with
    | cons h t =>
      cases t with
      | cons h' t' => cases t'; exact ⟨_, _, rfl, h, h'⟩
  cases r0
  cases r1
  rcases w.bag with e | ⟨b', c, l, ts, cells, left, turn, eB, ht, h1, h2, h3, n1, n2, n3, t0, l0, l63, le⟩
  · rw [e] at hb; cases hb
  rw [eB] at hb
  cases hb
  refine ⟨_, pss_cons (ps_set (i := 2) scDraw.nd rfl (Or.inl rfl) (pe_ix ix_seq (pv 0) pe_int fun _ _ => rfl))
    (pss_cons (ps_asg (pe_op op_add (pv 2) pe_int) (pg_sub (pv 0) pe_int set_list fun _ => rfl))
    (pss_cons (ps_set (i := 3) scDraw.nd rfl (Or.inl rfl) (pe_op op_mod (pe_callTy call_int1 rfl mi (by decide +kernel) (pa_cons (pv 2) pa_nil)) (pe_callB call_len_seq rfl ml PySem.boot_len (pa_cons (pe_ix ix_seq (pv 0) pe_int fun _ _ => rfl) pa_nil))))
    (pss_cons (ps_set (i := 4) scDraw.nd rfl (Or.inl rfl) (pe_ix ix_seq (pe_ix ix_seq (pv 0) pe_int fun _ _ => rfl) (pv 3) fun _ _ => rfl))
    (pss_cons (ps_set (i := 5) scDraw.nd rfl (Or.inl rfl) (pe_ix ix_seq (pv 0) pe_int fun _ _ => rfl))
    (pss_cons (ps_if (pw_and (pt_cmpR op_ge (pv 4) pe_int (nomark _)) (pw_and1 (pt_cmpR op_gt (pe_ix ix_seq (pv 5) (pv 3) fun _ _ => rfl) pe_int (nomark _)))).pt
      (pss_cons (ps_set (i := 6) scDraw.nd rfl (Or.inl rfl) (pe_op op_mod (pe_callTy call_int1 rfl mi (by decide +kernel) (pa_cons (pe_ix ix_seq (pv 5) (pv 3) fun _ _ => rfl) pa_nil)) (pv 1)))
      (pss_cons (ps_asg (pe_op op_fdivW (pe_ix ix_seq (pv 5) (pv 3) fun _ _ => rfl) (pv 1)) (pg_sub (pv 5) (pv 3) set_list fun _ => rfl))
      (pss_one (ps_ret (pv 6))))) pss_nil)
    (pss_cons (ps_set (i := 7) scDraw.nd rfl (Or.inl rfl) (pe_op op_mod (pe_callTy call_int1 rfl mi (by decide +kernel) (pa_cons (pe_op op_add (pe_op op_add (pv 4) (pe_op op_mul pe_int (pv 2))) pe_int) pa_nil)) pe_int))
    (pss_cons (ps_set (i := 7) scDraw.nd rfl (Or.inl rfl) (pe_op op_mod (pe_callTy call_int1 rfl mi (by decide +kernel) (pa_cons (pe_op op_mul (pv 7) (pe_op op_add (pv 7) pe_int)) pa_nil)) pe_int))
    (pss_cons (ps_set (i := 7) scDraw.nd rfl (Or.inl rfl) (pe_op op_mod (pe_callTy call_int1 rfl mi (by decide +kernel) (pa_cons (pe_op op_add (pe_op op_mul (pv 7) (pe_op op_add (pv 7) pe_int)) (pe_op op_mul pe_int (pv 2))) pa_nil)) pe_int))
    (pss_one (ps_ret (pe_op op_mod (pe_callTy call_int1 rfl mi (by decide +kernel) (pa_cons (pe_op op_fdiv (pv 7) pe_int) pa_nil)) (pv 1)))))))))))), ?_⟩
  -- the turn
  refine ⟨_, rfl, .inl ⟨b, _, 2, .int turn, rfl, rfl, SqL.of h1, rfl, ?_⟩⟩
  refine ⟨_, rfl, _, _, rfl, rfl, ?_⟩
  refine ⟨_, rfl, b, _, 2, 2, rfl, rfl, h1, rfl, ?_⟩
  have h1' : upd H b (.lst [.ref c, .ref l, .int (turn + 1)]) b = some (.lst [.ref c, .ref l, .int (turn + 1)]) := upd_same
  have h2' : upd H b (.lst [.ref c, .ref l, .int (turn + 1)]) c = some (.lst (cells.map V.int)) := by rw [upd_ne n1.symm]; exact h2
  have h3' : upd H b (.lst [.ref c, .ref l, .int (turn + 1)]) l = some (.lst (left.map V.int)) := by rw [upd_ne n2.symm]; exact h3
  have hlen : ((cells.map V.int).length : Int) = cells.length := by rw [List.length_map]
  have a0 : 0 ≤ turn % (cells.length : Int) := Int.emod_nonneg _ (by omega)
  have a1 : turn % (cells.length : Int) < cells.length := Int.emod_lt_of_pos _ (by omega)
  obtain ⟨cell, hc⟩ := atI_ints (ns := cells) a0 a1
  obtain ⟨lf, hl⟩ := atI_ints (ns := left) a0 (by rw [le]; exact a1)
  have last : ∀ (H' : Hp) (left' : List Int) (x : Int), (∀ a, a ≠ b → a ≠ l → H' a = H a) → H' b = some (.lst [.ref c, .ref l, .int (turn + 1)]) → H' l = some (.lst (left'.map V.int)) → left'.length = cells.length → Q (.int (x % size)) H' := fun H' left' x q1 q2 q3 q4 =>
    k F H' (.int (x % size)) (.int (x % size)) [] (bag_upd w eB ht h1 h2 h3 n1 n2 n3 l0 l63 q1 q2 (by omega) q3 q4) (Val.atom rfl fun _ => .int _) (fun a h => (by cases h)) List.nodup_nil (hR _ (Int.emod_nonneg _ (by omega)) (Int.emod_lt_of_pos _ h0))
  rw [← hlen] at a0 hc hl
  refine ⟨_, rfl, .inl ⟨_, rfl, _, rfl, .inl ⟨b, _, 0, .ref c, rfl, rfl, SqL.of h1', rfl, c, _, rfl, .inl (SqL.of h2'), _, _, rfl, rfl, (by rw [hlen]; omega), ?_⟩⟩⟩
  refine ⟨_, rfl, .inl ⟨b, _, 0, .ref c, rfl, rfl, SqL.of h1', rfl, _, rfl, .inl ⟨c, _, _, _, rfl, rfl, SqL.of h2', hc, ?_⟩⟩⟩
  refine ⟨_, rfl, .inl ⟨b, _, 1, .ref l, rfl, rfl, SqL.of h1', rfl, ?_⟩⟩
  refine ⟨_, rfl, _, _, rfl, rfl, _, rfl, ?_⟩
  dsimp only
  by_cases hcell : (1000000000000000000 : Int) ≤ cell
  · rw [if_pos (decide_eq_true hcell)]
    refine ⟨_, rfl, _, rfl, .inl ⟨l, _, _, _, rfl, rfl, SqL.of h3', hl, _, _, rfl, rfl, _, rfl, ?_⟩⟩
    dsimp only
    by_cases hlf : (0 : Int) < lf
    · rw [if_pos (decide_eq_true hlf)]
      obtain ⟨_, kx, _, hix, hkl⟩ := atI_at hl a0
      refine ⟨_, rfl, _, rfl, .inl ⟨l, _, _, _, rfl, rfl, SqL.of h3', hl, .inl ⟨_, rfl, _, rfl, _, _, rfl, rfl, h0, ?_⟩⟩⟩
      refine ⟨_, rfl, _, rfl, .inl ⟨l, _, _, _, rfl, rfl, SqL.of h3', hl, _, rfl, _, _, rfl, rfl, ⟨h0, hz⟩, _, rfl, _, rfl, l, _, _, kx, rfl, rfl, h3', hix, ?_⟩⟩
      refine ⟨_, rfl, last _ (left.set kx (lf / size)) _ (fun a q1 q2 => by rw [upd_ne q2, upd_ne q1]) (by rw [upd_ne n2]; exact h1') (by rw [upd_same, List.map_set]) (by rw [List.length_set]; exact le)⟩
    · rw [if_neg (by rw [decide_eq_false hlf]; exact Bool.false_ne_true)]
      refine ⟨_, rfl, _, rfl, _, _, rfl, rfl, .inl ⟨by decide, by decide⟩, _, _, rfl, rfl, _, _, rfl, rfl, .inl ⟨_, rfl, _, _, rfl, rfl, (by dsimp only; decide), ?_⟩⟩
      have small : ∀ x : Int, -(2 ^ 64) < x % 2147483647 ∧ x % 2147483647 < 2 ^ 64 := fun x => by have := Int.emod_nonneg x (b := 2147483647) (by decide); have := Int.emod_lt_of_pos x (b := 2147483647) (by decide); omega
      have small' : ∀ x : Int, -(2 ^ 64) < x % 2147483629 ∧ x % 2147483629 < 2 ^ 64 := fun x => by have := Int.emod_nonneg x (b := 2147483629) (by decide); have := Int.emod_lt_of_pos x (b := 2147483629) (by decide); omega
      refine ⟨_, rfl, _, rfl, _, _, rfl, rfl, _, _, rfl, rfl, .inl (small _), .inl ⟨_, rfl, _, _, rfl, rfl, (by dsimp only; decide), ?_⟩⟩
      refine ⟨_, rfl, _, rfl, _, _, rfl, rfl, _, _, rfl, rfl, .inl (small' _), _, rfl, _, _, rfl, rfl, .inl ⟨by decide, by decide⟩, _, _, rfl, rfl, .inl ⟨_, rfl, _, _, rfl, rfl, (by dsimp only; decide), ?_⟩⟩
      refine ⟨_, rfl, _, _, rfl, rfl, ⟨by decide, by decide⟩, .inl ⟨_, rfl, _, rfl, _, _, rfl, rfl, h0, ?_⟩⟩
      exact last _ left _ (fun a q1 _ => upd_ne q1) h1' h3' le
  · rw [if_neg (by rw [decide_eq_false hcell]; exact Bool.false_ne_true)]
    rw [if_neg Bool.false_ne_true]
    refine ⟨_, rfl, _, rfl, _, _, rfl, rfl, .inl ⟨by decide, by decide⟩, _, _, rfl, rfl, _, _, rfl, rfl, .inl ⟨_, rfl, _, _, rfl, rfl, (by dsimp only; decide), ?_⟩⟩
    have small : ∀ x : Int, -(2 ^ 64) < x % 2147483647 ∧ x % 2147483647 < 2 ^ 64 := fun x => by have := Int.emod_nonneg x (b := 2147483647) (by decide); have := Int.emod_lt_of_pos x (b := 2147483647) (by decide); omega
    have small' : ∀ x : Int, -(2 ^ 64) < x % 2147483629 ∧ x % 2147483629 < 2 ^ 64 := fun x => by have := Int.emod_nonneg x (b := 2147483629) (by decide); have := Int.emod_lt_of_pos x (b := 2147483629) (by decide); omega
    refine ⟨_, rfl, _, rfl, _, _, rfl, rfl, _, _, rfl, rfl, .inl (small _), .inl ⟨_, rfl, _, _, rfl, rfl, (by dsimp only; decide), ?_⟩⟩
    refine ⟨_, rfl, _, rfl, _, _, rfl, rfl, _, _, rfl, rfl, .inl (small' _), _, rfl, _, _, rfl, rfl, .inl ⟨by decide, by decide⟩, _, _, rfl, rfl, .inl ⟨_, rfl, _, _, rfl, rfl, (by dsimp only; decide), ?_⟩⟩
    refine ⟨_, rfl, _, _, rfl, rfl, ⟨by decide, by decide⟩, .inl ⟨_, rfl, _, rfl, _, _, rfl, rfl, h0, ?_⟩⟩
    exact last _ left _ (fun a q1 _ => upd_ne q1) h1' h3' le
end
end GK

namespace GK
open PySem PySem.Spec PyProof.Rows L2
abbrev sBag : Stmt := topS 4
section
variable {P : Program} {w : World} {K : PySem.W.Frag} {mg : Str → Option Value} {base : Heap}
theorem scBag : FnScope ["script", "cells", "cell"] ["script"] (defScope sBag) := ⟨rfl, rfl, rfl, by decide +kernel, rfl, by decide +kernel, by decide +kernel⟩
theorem ok_bag {f : Addr} {fd : FuncData} (F : Fun K "_law_bag" "_law_bag" sBag f fd) (mi : mg "int" = none) (ml : mg "len" = none) (mL : mg "list" = none) : FnOk P w K mg base CX0 1 f fd ["script"] (spBag K) := by
  refine F.ok scBag (fun vs H Q E ⟨a, ns, e, _⟩ => by rw [e]; rfl) fun cdv A outer s H vs Q E hr ⟨a, ns, e, hs, hlen, k⟩ => ?_
  subst e
  refine ⟨_, pss_cons (ps_setLc (i := 1) (own := [("cell", 2)]) rfl scBag.nd rfl rfl (sw_true rfl rfl rfl rfl) (pi_list (pe_slice sl_list (pv 0) po_none (po_some pe_int))) (blk_of ["script", "cells", "cell"] (defScope sBag) rfl (by decide +kernel) (by decide +kernel) (by decide +kernel) (by decide +kernel))
      (fun _ _ _ _ _ => pg_name (i := 2) scBag.nd rfl (Or.inl rfl) (Or.inr rfl)) (fun _ _ _ _ _ => pts_nil) (fun _ _ _ _ _ => pe_callTy call_int1 rfl mi (by decide +kernel) (pa_cons (pv 2) pa_nil)))
    (pss_cons (ps_if (pt_cmpR op_eq (pe_callB call_len_seq rfl ml PySem.boot_len (pa_cons (pv 1) pa_nil)) pe_int (nomark _)) (pss_one (ps_set (i := 1) scBag.nd rfl (Or.inl rfl) (pe_lst (pa_cons pe_int pa_nil)))) pss_nil)
    (pss_one (ps_ret (pe_lst (pa_cons (pv 1) (pa_cons (pe_callTy call_list_of rfl mL (by decide +kernel) (pa_cons (pv 1) pa_nil)) (pa_cons pe_int pa_nil))))))), ?_⟩
  refine ⟨_, rfl, 63, rfl, a, _, rfl, hs, fun p hp => ?_⟩
  obtain ⟨ms, em, lm⟩ := cut_ints ns Option.none (some 63)
  rw [em]
  have e0 : Ext H (upd H p (.lst (ms.map V.int))) := Ext.refl.put hp
  refine ⟨p, rfl, ⟨_, SqL.of upd_same⟩, fun Dc hD => ?_⟩
  have hpD : p ≠ Dc := fun z => by rw [← z, upd_same] at hD; cases hD
  have hD0 : H Dc = Option.none := e0.none hD
  refine lc_list (fun i H' => ∃ acc : List Int, acc.length = i ∧ H' = upd (upd H p (.lst (ms.map V.int))) Dc (.lst (acc.map V.int))) ⟨[], rfl, rfl⟩ (fun i H' _ ⟨acc, _, eH⟩ => SqL.of (by rw [eH, upd_ne hpD]; exact upd_same)) ?_ ?_
  · rintro i x H' hx ⟨acc, la, rfl⟩
    have hi : i < ms.length := by
      have := (List.getElem?_eq_some_iff.mp hx).1
      rw [List.length_map] at this; exact this
    obtain ⟨m, rfl⟩ : ∃ m, x = V.int m := by
      rw [List.getElem?_map, List.getElem?_eq_getElem hi] at hx
      exact ⟨_, (Option.some.inj hx).symm⟩
    have hsz : acc.length < sizeLine := by rw [la]; exact Nat.lt_of_lt_of_le hi (by have : sizeLine = 16777216 := by decide
                                                                                    omega)
    refine ⟨rfl, ?_⟩
    unfold tYes
    dsimp only
    rw [if_pos rfl]
    refine ⟨_, rfl, .inl ⟨m, rfl, _, upd_same, by rw [List.length_map]; exact hsz, acc ++ [m], by rw [List.length_append, la]; rfl, ?_⟩⟩
    rw [upd_upd, List.map_append]; rfl
  · rintro H' ⟨acc, la, rfl⟩
    rw [List.length_map] at la
    have e1 : Ext H (upd (upd H p (.lst (ms.map V.int))) Dc (.lst (acc.map V.int))) := e0.put hD0
    have a63 : acc.length ≤ 63 := by omega
    -- the end, from the cells at q
    have fin : ∀ (H1 : Hp) (q : Addr) (cells : List Int), Ext H H1 → H q = Option.none → H1 q = some (.lst (cells.map V.int)) → 0 < cells.length → cells.length ≤ 63 → ∀ l b, H1 l = Option.none → upd H1 l (.lst (cells.map V.int)) b = Option.none → Q (.ref b) (upd (upd H1 l (.lst (cells.map V.int))) b (.lst [.ref q, .ref l, .int 0])) := fun H1 q cells ex hq h1 c0 c63 l b hl hb => by
      have hlq : q ≠ l := fun z => by rw [z, hl] at h1; cases h1
      have hbl : b ≠ l := fun z => by rw [z, upd_same] at hb; cases hb
      have hb1 : H1 b = Option.none := by rw [upd_ne hbl] at hb; exact hb
      have hbq : b ≠ q := fun z => by rw [z, h1] at hb1; cases hb1
      have ee := (ex.put (xs := cells.map V.int) (ex.none hl)).put (xs := [.ref q, .ref l, .int 0]) (ex.none hb1)
      exact k b q l cells cells _ (ex.none hb1) hbq hbl hlq c0 c63 rfl ee.1 ee.2 upd_same (by rw [upd_ne hbq.symm, upd_ne hlq]; exact h1) (by rw [upd_ne hbl.symm]; exact upd_same)
    refine ⟨_, rfl, Dc, _, rfl, .inl (SqL.of upd_same), ?_⟩
    refine ⟨rfl, _, rfl, ?_⟩
    dsimp only
    by_cases h0 : acc.length = 0
    · rw [if_pos (decide_eq_true (by rw [List.length_map, h0]; rfl))]
      refine ⟨by show 1 ≤ sizeLine; decide, fun q hq => ?_⟩
      have ex2 := e1.put (xs := [V.int 0]) (e1.none hq)
      refine ⟨_, rfl, _, rfl, q, _, rfl, .inl (SqL.of upd_same), fun l hl => ⟨by show 3 ≤ sizeLine; decide, fun b hb => ?_⟩⟩
      exact fin _ q [0] ex2 (e1.none hq) upd_same (by decide) (by decide) l b hl hb
    · rw [if_neg (by
        rw [decide_eq_false]
        · exact Bool.false_ne_true
        · intro z
          have := V.int.inj z
          rw [List.length_map] at this
          omega)]
      refine ⟨_, rfl, _, rfl, Dc, _, rfl, .inl (SqL.of upd_same), fun l hl => ⟨by show 3 ≤ sizeLine; decide, fun b hb => ?_⟩⟩
      exact fin _ Dc acc e1 hD0 upd_same (by omega) a63 l b hl hb
end
end GK

namespace GK
open PySem PySem.Spec PyProof.Rows L2
open PySem
local macro_rules | `(tactic| and_intros) => `(tactic| try simp only [ownLst, ownObj, mTake, mOf, fAndV, fOrV, fArgs, fCons, fNil, fVar_0, fVar_s, fUn, fBin, fBool, startE, envOf, slot, gSeq, frzE, gComp, gCompD, wipe_nil, wipe_cons, List.map_cons, List.map_nil, List.cons_append, List.nil_append, List.append_nil, true_and, and_true, List.set_cons_zero, List.set_cons_succ, List.length_cons, List.length_nil, List.replicate_succ, List.replicate_zero, Nat.reduceSub, Nat.reduceAdd, Nat.reduceLT, DEnds.fn, bOf_bl, eq_self, reduceIte, Bool.false_eq_true, gNotV_bl, Bool.not_true, Bool.not_false, g2I_int, g2I0_int, g1I_int, gLen_lst, gLen_tup, gInt_int, gMax2_int, gMin2_int, gIsN_non, gIsN_obj, gIsN_dT, gIsN_dK, gIsN_int, xsOf_lst, tsOf_tup, gIx_t0, gIx_t1, gIx_l0, gIx_l1, gIx_l2, gEqA_int, gEqA_str, gEqA_bl, gTup, gLst, Option.isSome_some, Bool.false_xor, Bool.true_xor, gFor, gNegI, gEqA_no, gIsN_lst, gIsN_tup, gIx_t2, Bool.not_not, dnE, dnL, decide_true, decide_false, gListL_lst, gTupL_lst, gListU_lst, gListU_tup, Bool.xor_false, Bool.not_false, Bool.not_true, Option.isSome_none, gIntB_bl, isi_int_int, isi_str_int, isi_str_str, isi_int_str, isi_int_bl, isi_tup_tup, iOf_i, gIx_t0, gIx_t1])
section
variable {P : Program} {w : World} {K : PySem.W.Frag} {mg : Str → Option Value} {base : Heap}
abbrev s_law : Stmt := topS 23
theorem sc_law : FnScope ["script", "bag", "words", "ids", "years", "top", "count", "rows", "others", "entry", "told", "split", "handed", "book", "other", "fresh", "k", "due", "due_other", "late", "union"] ["script"] (defScope s_law) := ⟨rfl, rfl, rfl, by decide +kernel, rfl, by decide +kernel, by decide +kernel⟩
theorem ok_law {f fB : Addr} {fd fdB : FuncData} {C_Book : Addr} (F : Fun K "law" "law" s_law f fd) (T : Bi mg) (FB : FnOk P w K mg base CX0 1 fB fdB ["script"] (spBag K)) (mB : mg "_law_bag" = some (.ref fB)) (kB : PySem.W.keepIn K (.ref fB) = true) (bB : Binds K fdB ["script"] []) (sf_Book : PySem.W.selfFirst K C_Book = true) (c_Book___contains : CalM P w K mg base C_Book "__contains__" 1 ["self", "entry"] (.own 0) [] (w_Book___contains C_Book)) (c_Book_0 : CalK P w K mg base "Book" C_Book 2 1 ["self", "entries"] (.own 0) [.raw (.ref de_Book___init_0)] (w_Book_init C_Book de_Book___init_0)) (c_Book : CalK P w K mg base "Book" C_Book 2 1 ["self", "entries"] (.own 0) [] (w_Book_init C_Book de_Book___init_0)) (c_Book___or : CalM P w K mg base C_Book "__or__" 4 ["self", "other"] (.own 2) [] (w_Book___or C_Book de_Book___init_0)) (c_Book_tell : CalMM P w K mg base C_Book "tell" 2 1 ["self", "entry"] (.own 0) [] (w_Book_tell C_Book)) (c_Book_until : CalM P w K mg base C_Book "until" 4 ["self", "day"] (.own 2) [] (w_Book_until C_Book de_Book___init_0)) (c_law_compared : Cal P w K mg base "_law_compared" 6 ["bag", "book", "due"] (.own 0) [] (w_law_compared C_Book de_Book___init_0)) (c_law_cut : Cal P w K mg base "_law_cut" 6 ["bag", "book", "due"] (.own 0) [] (w_law_cut C_Book de_Book___init_0)) (c_law_draw : Cal P w K mg base "_law_draw" 1 ["bag", "size"] (.own 0) [] wDraw) (c_law_drawn : Cal P w K mg base "_law_drawn" 3 ["bag", "count", "ids", "years", "words", "top"] (.own 0) [] w_law_drawn) (c_law_fresh : Cal P w K mg base "_law_fresh" 1 ["rows"] (.own 0) [] w_law_fresh) (c_law_has_just : Cal P w K mg base "_law_has_just" 5 ["book", "due"] (.own 0) [] (w_law_has_just C_Book)) (c_law_joined : Cal P w K mg base "_law_joined" 6 ["book", "due", "other", "due_other"] (.own 0) [] (w_law_joined C_Book de_Book___init_0)) (c_law_members : Cal P w K mg base "_law_members" 3 ["bag", "book", "due"] (.own 0) [] (w_law_members C_Book)) (c_law_mixed : Cal P w K mg base "_law_mixed" 2 ["bag", "rows"] (.own 0) [] w_law_mixed) (c_law_names : Cal P w K mg base "_law_names" 3 ["bag", "count"] (.own 0) [] w_law_names) (c_law_order : Cal P w K mg base "_law_order" 1 ["rows"] (.own 0) [] w_law_order) :
    FnOk P w K mg base CX0 7 f fd ["script"] (spLaw K) := by
  refine F.ok sc_law (fun vs H Q E ⟨a, ns, e, _⟩ => by rw [e]; rfl) fun cdv A outer s H vs Q E hr ⟨a, ns, e, hs, hlen, hO, hq⟩ => ?_
  subst e
  refine ⟨_, pss_cons (ps_set (i := 1) sc_law.nd rfl (by first | exact Or.inl rfl | exact Or.inr rfl) (pe_call FB (hr.mono (by decide)) rfl mB kB bB .nil pass0 (pa_cons (pv 0) pa_nil))) (law_rest fun B => (ds_cons (ds_setM 2 0 sc_law.nd rfl (by first | exact Or.inl rfl | exact Or.inr rfl) (by decide) (dm_of (de_C c_law_names hr (da_cons (m := .own 0) (de_v 1) (da_cons (m := .own 0) (de_int (m := .own 0)) da_nil)))))
(ds_cons (ds_setM 3 0 sc_law.nd rfl (by first | exact Or.inl rfl | exact Or.inr rfl) (by decide) (dm_of (de_at (de_frz (de_lst 0 (da_cons (m := .own 0) (de_int (m := .own 0)) (da_cons (m := .own 0) (de_int (m := .own 0)) (da_cons (m := .own 0) (de_int (m := .own 0)) da_nil))))) (de_C c_law_draw hr (da_cons (m := .own 0) (de_v 1) (da_cons (m := .own 0) (de_int (m := .own 0)) da_nil))))))
(ds_cons (ds_setM 4 0 sc_law.nd rfl (by first | exact Or.inl rfl | exact Or.inr rfl) (by decide) (dm_of (de_at (de_frz (de_lst 0 (da_cons (m := .own 0) (de_int (m := .own 0)) (da_cons (m := .own 0) (de_int (m := .own 0)) (da_cons (m := .own 0) (de_int (m := .own 0)) da_nil))))) (de_C c_law_draw hr (da_cons (m := .own 0) (de_v 1) (da_cons (m := .own 0) (de_int (m := .own 0)) da_nil))))))
(ds_cons (ds_setM 5 0 sc_law.nd rfl (by first | exact Or.inl rfl | exact Or.inr rfl) (by decide) (dm_of (de_at (de_frz (de_lst 0 (da_cons (m := .own 0) (de_int (m := .own 0)) (da_cons (m := .own 0) (de_int (m := .own 0)) da_nil)))) (de_C c_law_draw hr (da_cons (m := .own 0) (de_v 1) (da_cons (m := .own 0) (de_int (m := .own 0)) da_nil))))))
(ds_cons (ds_setM 6 0 sc_law.nd rfl (by first | exact Or.inl rfl | exact Or.inr rfl) (by decide) (dm_of (de_C c_law_draw hr (da_cons (m := .own 0) (de_v 1) (da_cons (m := .own 0) (de_int (m := .own 0)) da_nil)))))
(ds_cons (ds_if (dt_eq (de_C c_law_draw hr (da_cons (m := .own 0) (de_v 1) (da_cons (m := .own 0) (de_int (m := .own 0)) da_nil))) (de_int (m := .rd)))
(ds_one (ds_setM 6 0 sc_law.nd rfl (by first | exact Or.inl rfl | exact Or.inr rfl) (by decide) (dm_of (de_int (m := .own 0)))))
ds_nil)
(ds_cons (ds_setM 7 0 sc_law.nd rfl (by first | exact Or.inl rfl | exact Or.inr rfl) (by decide) (dm_of (de_C c_law_drawn hr (da_cons (m := .own 0) (de_v 1) (da_cons (m := .own 0) (de_v 6) (da_cons (m := .own 0) (de_v 3) (da_cons (m := .own 0) (de_v 4) (da_cons (m := .own 0) (de_v 2) (da_cons (m := .own 0) (de_v 5) da_nil)))))))))
(ds_cons (ds_setM 8 0 sc_law.nd rfl (by first | exact Or.inl rfl | exact Or.inr rfl) (by decide) (dm_of (de_C c_law_drawn hr (da_cons (m := .own 0) (de_v 1) (da_cons (m := .own 0) (de_C c_law_draw hr (da_cons (m := .own 0) (de_v 1) (da_cons (m := .own 0) (de_int (m := .own 0)) da_nil))) (da_cons (m := .own 0) (de_v 3) (da_cons (m := .own 0) (de_v 4) (da_cons (m := .own 0) (de_v 2) (da_cons (m := .own 0) (de_v 5) da_nil)))))))))
(ds_cons (ds_setM 8 0 sc_law.nd rfl (by first | exact Or.inl rfl | exact Or.inr rfl) (by decide) (dm_of (de_frz (de_cat (de_v 8) (de_frz (de_lc (own := [("entry", 9)]) 0 rfl sc_law.nd (di_list (de_v 7)) (blk_of ["script", "bag", "words", "ids", "years", "top", "count", "rows", "others", "entry", "told", "split", "handed", "book", "other", "fresh", "k", "due", "due_other", "late", "union"] (defScope s_law) rfl (by decide +kernel) (by decide +kernel) (by decide +kernel) (by decide +kernel)) (dgc_name 9 sc_law.nd rfl) (hol_cons rfl (fun _ _ => rfl) hol_nil) (fun _ _ _ _ _ => dts_one (dt_bool (dw_and (dt_eq (de_C c_law_draw hr (da_cons (m := .own 0) (de_v 1) (da_cons (m := .own 0) (de_int (m := .own 0)) da_nil))) (de_int (m := .rd))) (dw_and1 (dt_notinD (hr.u 65) (de_v 9) (de_v 8)))))) (fun _ _ _ _ _ => (de_v 9))))))))
(ds_cons (ds_setM 10 0 sc_law.nd rfl (by first | exact Or.inl rfl | exact Or.inr rfl) (by decide) (dm_of (de_C c_law_mixed hr (da_cons (m := .own 0) (de_v 1) (da_cons (m := .own 0) (de_frz (de_cat (de_v 7) (de_frz (de_lc (own := [("entry", 9)]) 0 rfl sc_law.nd (di_list (de_v 7)) (blk_of ["script", "bag", "words", "ids", "years", "top", "count", "rows", "others", "entry", "told", "split", "handed", "book", "other", "fresh", "k", "due", "due_other", "late", "union"] (defScope s_law) rfl (by decide +kernel) (by decide +kernel) (by decide +kernel) (by decide +kernel)) (dgc_name 9 sc_law.nd rfl) (hol_cons rfl (fun _ _ => rfl) hol_nil) (fun _ _ _ _ _ => dts_one (dt_eq (de_C c_law_draw hr (da_cons (m := .own 0) (de_v 1) (da_cons (m := .own 0) (de_int (m := .own 0)) da_nil))) (de_int (m := .rd)))) (fun _ _ _ _ _ => (de_v 9)))))) da_nil)))))
(ds_cons (ds_setM 11 0 sc_law.nd rfl (by first | exact Or.inl rfl | exact Or.inr rfl) (by decide) (dm_of (de_C c_law_draw hr (da_cons (m := .own 0) (de_v 1) (da_cons (m := .own 0) (de_add (m := .own 0) (de_len (m := .rd) T.len_ (de_v 10)) (de_int (m := .rd))) da_nil)))))
(ds_cons (ds_setM 12 1 sc_law.nd rfl (by first | exact Or.inl rfl | exact Or.inr rfl) (by decide) (dm_of (de_listL T.list_ (de_frz (de_slL (de_v 10) do_none (do_some (de_v 11)))))))
(ds_cons (ds_setM 13 2 sc_law.nd rfl (by first | exact Or.inl rfl | exact Or.inr rfl) (by decide) (dm_of (de_CkR c_Book hr (da_cons (m := .rd) (de_rd (de_var 12 1)) da_nil))))
(ds_cons (ds_setM 14 2 sc_law.nd rfl (by first | exact Or.inl rfl | exact Or.inr rfl) (by decide) (dm_of (de_Ck c_Book hr (da_cons (m := .own 0) (de_tupL T.tuple_ (de_frz (de_slL (de_v 8) do_none (do_some (de_int (m := .rd)))))) da_nil))))
(ds_cons (ds_setM 15 0 sc_law.nd rfl (by first | exact Or.inl rfl | exact Or.inr rfl) (by decide) (dm_of (de_C c_law_fresh hr (da_cons (m := .own 0) (de_frz (de_cat (de_v 7) (de_v 8))) da_nil))))
(ds_cons (ds_exprM (m := .own 0) (dm_append 12 0 (dm_of (de_v 15))))
(ds_cons (ds_setL 12 0 (dm_of (de_v 15)) (de_int (m := .own 0)))
(ds_cons (ds_for PassesOwn.never rfl (di_range T.range_ (de_max2 (m := .rd) rfl T.max_ (de_len (m := .rd) T.len_ (de_v 10)) (de_len (m := .rd) T.len_ (de_v 8)))) (dg_name 16 sc_law.nd rfl (by first | exact Or.inl rfl | exact Or.inr rfl) (by decide))
(ds_cons (ds_ifM (dtm_bool (dwm_and (dtm_of (dt_lt (de_add (m := .rd) (de_v 11) (de_v 16)) (de_len (m := .rd) T.len_ (de_v 10)))) (dwm_and1 (dtm_isnot (dm_CM _ c_Book_tell hr (dp_var 13) (da_cons (m := .own 0) (de_at (de_v 10) (de_add (m := .rd) (de_v 11) (de_v 16))) da_nil)) de_non))))
(ds_one (ds_retM (dm_of (de_bl (m := .own 0)))))
ds_nil)
(ds_one (ds_ifM (dtm_bool (dwm_and (dtm_of (dt_lt (de_add (m := .rd) (de_int (m := .rd)) (de_v 16)) (de_len (m := .rd) T.len_ (de_v 8)))) (dwm_and1 (dtm_isnot (dm_CM _ c_Book_tell hr (dp_var 14) (da_cons (m := .own 0) (de_at (de_v 8) (de_add (m := .rd) (de_int (m := .rd)) (de_v 16))) da_nil)) de_non))))
(ds_one (ds_retM (dm_of (de_bl (m := .own 0)))))
ds_nil))))
(ds_cons (ds_frz 14 (ds_setM 17 0 sc_law.nd rfl (by first | exact Or.inl rfl | exact Or.inr rfl) (by decide) (dm_of (de_C c_law_order hr (da_cons (m := .own 0) (de_v 7) da_nil)))))
(ds_cons (ds_setM 18 0 sc_law.nd rfl (by first | exact Or.inl rfl | exact Or.inr rfl) (by decide) (dm_of (de_C c_law_order hr (da_cons (m := .own 0) (de_v 8) da_nil))))
(ds_cons (ds_if (dt_bool (dw_or (dt_not (dt_val (de_CR (n := 0) c_law_has_just hr (da_cons (m := .rd) (de_rd (de_var 13 2)) (da_cons (m := .rd) (de_rd (de_v 17)) da_nil))))) (dw_or (dt_not (dt_val (de_C c_law_has_just hr (da_cons (m := .own 0) (de_v 14) (da_cons (m := .own 0) (de_v 18) da_nil))))) (dw_or1 (dt_not (dt_val (de_CR (n := 0) c_law_members hr (da_cons (m := .rd) (de_rd (de_v 1)) (da_cons (m := .rd) (de_rd (de_var 13 2)) (da_cons (m := .rd) (de_rd (de_v 17)) da_nil))))))))))
(ds_one (ds_retM (dm_of (de_bl (m := .own 0)))))
ds_nil)
(ds_cons (ds_if (dt_bool (dw_or (dt_not (dt_val (de_CR (n := 0) c_law_compared hr (da_cons (m := .rd) (de_rd (de_v 1)) (da_cons (m := .rd) (de_rd (de_var 13 2)) (da_cons (m := .rd) (de_rd (de_v 17)) da_nil)))))) (dw_or1 (dt_not (dt_val (de_CR (n := 0) c_law_joined hr (da_cons (m := .rd) (de_rd (de_var 13 2)) (da_cons (m := .rd) (de_rd (de_v 17)) (da_cons (m := .rd) (de_rd (de_v 14)) (da_cons (m := .rd) (de_rd (de_v 18)) da_nil))))))))))
(ds_one (ds_retM (dm_of (de_bl (m := .own 0)))))
ds_nil)
(ds_cons (ds_if (dt_not (dt_val (de_CR (n := 0) c_law_cut hr (da_cons (m := .rd) (de_rd (de_v 1)) (da_cons (m := .rd) (de_rd (de_var 13 2)) (da_cons (m := .rd) (de_rd (de_v 17)) da_nil))))))
(ds_one (ds_retM (dm_of (de_bl (m := .own 0)))))
ds_nil)
(ds_cons (ds_ifM (dtm_bool (dwm_and (dtm_of (dt_gt (de_len (m := .rd) T.len_ (de_v 17)) (de_int (m := .rd)))) (dwm_and1 (dtm_isnot (dm_CM _ c_Book_tell hr (dp_var 13) (da_cons (m := .own 0) (de_at (de_v 17) (de_C c_law_draw hr (da_cons (m := .own 0) (de_v 1) (da_cons (m := .own 0) (de_len (m := .own 0) T.len_ (de_v 17)) da_nil)))) da_nil)) de_non))))
(ds_one (ds_retM (dm_of (de_bl (m := .own 0)))))
ds_nil)
(ds_cons (ds_setM 19 0 sc_law.nd rfl (by first | exact Or.inl rfl | exact Or.inr rfl) (by decide) (dm_of (de_frz (de_CmR _ c_Book_until hr (de_var 13 2) (da_cons (m := .own 0) (de_int (m := .own 0)) da_nil)))))
(ds_cons (ds_setM 20 0 sc_law.nd rfl (by first | exact Or.inl rfl | exact Or.inr rfl) (by decide) (dm_of (de_frz (de_ownBinR c_Book___or sf_Book hr (de_var 13 2) (de_v 14)))))
(ds_cons (ds_ifM (dtm_bool (dwm_or (dtm_of (dt_not (dt_val (de_CR (n := 0) c_law_has_just hr (da_cons (m := .rd) (de_rd (de_var 13 2)) (da_cons (m := .rd) (de_rd (de_v 17)) da_nil)))))) (dwm_or (dtm_isnot (dm_CM _ c_Book_tell hr (dp_var 13) (da_cons (m := .own 0) (de_v 15) da_nil)) de_non) (dwm_or1 (dtm_of (dt_not (dt_val (de_C c_law_has_just hr (da_cons (m := .own 0) (de_v 19) (da_cons (m := .own 0) (de_v 17) da_nil))))))))))
(ds_one (ds_retM (dm_of (de_bl (m := .own 0)))))
ds_nil)
(ds_cons (ds_frz 13 (ds_if (dt_not (dt_val (de_C c_law_has_just hr (da_cons (m := .own 0) (de_v 20) (da_cons (m := .own 0) (de_C c_law_order hr (da_cons (m := .own 0) (de_frz (de_cat (de_v 17) (de_frz (de_lc (own := [("entry", 9)]) 0 rfl sc_law.nd (di_list (de_v 18)) (blk_of ["script", "bag", "words", "ids", "years", "top", "count", "rows", "others", "entry", "told", "split", "handed", "book", "other", "fresh", "k", "due", "due_other", "late", "union"] (defScope s_law) rfl (by decide +kernel) (by decide +kernel) (by decide +kernel) (by decide +kernel)) (dgc_name 9 sc_law.nd rfl) (hol_cons rfl (fun _ _ => rfl) hol_nil) (fun _ _ _ _ _ => dts_one (dt_notinD (hr.u 65) (de_v 9) (de_v 17))) (fun _ _ _ _ _ => (de_v 9)))))) da_nil)) da_nil)))))
(ds_one (ds_retM (dm_of (de_bl (m := .own 0)))))
ds_nil))
(ds_one (ds_retM (dm_of (de_and (m := .own 0) (de_C c_law_has_just hr (da_cons (m := .own 0) (de_v 13) (da_cons (m := .own 0) (de_C c_law_order hr (da_cons (m := .own 0) (de_frz (de_cat (de_v 17) (de_frz (de_lst 0 (da_cons (m := .own 0) (de_v 15) da_nil))))) da_nil)) da_nil))) (de_and (m := .own 0) (de_ownIn (m := .rd) c_Book___contains hr (de_v 15) (de_v 13)) (de_and (m := .own 0) (de_ownNotin (m := .rd) c_Book___contains hr (de_v 15) (de_v 19)) (de_one (de_C c_law_has_just hr (da_cons (m := .own 0) (de_frz (de_Ck0 c_Book_0 hr)) (da_cons (m := .own 0) (de_frz (de_lst 0 da_nil)) da_nil))))))))))))))))))))))))))))))))))))))), ?_⟩
  refine ⟨_, rfl, a, ns, rfl, hs, hlen, fun b c l cells left H' nb n1 n2 n3 l0 l63 le hk hlk h1 h2 h3 => ?_⟩
  refine fun N hN => law_start (n := 19) hO hN nb n1 n2 n3 l0 l63 le hlk h1 h2 h3 (fun B hb => ?_) (fun H2 => hq H2)
  refine seq_cut3 (fun ρ => ∃ (ws : List Str) (i y : Nat), ws.length = 8 ∧ (∀ s ∈ ws, strOk s = true ∧ s.length ≤ 1000) ∧ (1 ≤ i ∧ i ≤ 999999) ∧ (1 ≤ y ∧ y ≤ 100) ∧ ρ = [some (0, .raw (.ref a)), some (0, .raw (.ref b)), some (0, .lst (ws.map .str)), some (0, natD i), some (0, natD y), none, none, none, none, none, none, none, none, none, none, none, none, none, none, none, none]) (fun N3 g3 => ?_) ?_
  · and_intros
    refine ⟨b, 8, hb, rfl, by decide, fun ws hl hs => ⟨by decide, drawN 3 hb (by decide) (by decide) fun v hv => ?_⟩⟩
    obtain ⟨i, e1, h1⟩ : ∃ i : Nat, [D.int 4, D.int 12, D.int 999999][v]? = some (natD i) ∧ (1 ≤ i ∧ i ≤ 999999) := by
      match v, hv with
      | 0, _ => exact ⟨4, rfl, by decide⟩
      | 1, _ => exact ⟨12, rfl, by decide⟩
      | 2, _ => exact ⟨999999, rfl, by decide⟩
    refine gIx_nat e1 ?_
    and_intros
    refine ⟨by decide, drawN 3 hb (by decide) (by decide) fun v2 hv2 => ?_⟩
    obtain ⟨y, e2, h2⟩ : ∃ i : Nat, [D.int 1, D.int 3, D.int 100][v2]? = some (natD i) ∧ (1 ≤ i ∧ i ≤ 100) := by
      match v2, hv2 with
      | 0, _ => exact ⟨1, rfl, by decide⟩
      | 1, _ => exact ⟨3, rfl, by decide⟩
      | 2, _ => exact ⟨100, rfl, by decide⟩
    refine gIx_nat e2 ?_
    exact g3 _ ⟨ws, i, y, hl, fun s h => ⟨(hs s h).1, by have := (hs s h).2.1; omega⟩, h1, h2, rfl⟩
  rintro ρ ⟨ws, i, y, hws, hok, hi, hy, rfl⟩
  refine seq_cut3 (fun ρ => ∃ (tp n : Nat), tp ≤ 1000000000 ∧ n ≤ 72 ∧ ρ = [some (0, .raw (.ref a)), some (0, .raw (.ref b)), some (0, .lst (ws.map .str)), some (0, natD i), some (0, natD y), some (0, natD tp), some (0, natD n), none, none, none, none, none, none, none, none, none, none, none, none, none, none]) (fun N3 g3 => ?_) ?_
  · and_intros
    refine ⟨by decide, drawN 2 hb (by decide) (by decide) fun v hv => ?_⟩
    obtain ⟨tp, e1, h1⟩ : ∃ i : Nat, [D.int 6, D.int 1000000000][v]? = some (natD i) ∧ i ≤ 1000000000 := by
      match v, hv with
      | 0, _ => exact ⟨6, rfl, by decide⟩
      | 1, _ => exact ⟨1000000000, rfl, by decide⟩
    refine gIx_nat e1 ?_
    refine drawN 15 hb (by decide) (by decide) fun n hn => ?_
    refine drawN 16 hb (by decide) (by decide) fun v2 _ => ?_
    and_intros
    cases decide ((v2 : Int) = 0) with
    | true =>
      and_intros
      exact g3 _ ⟨tp, 72, h1, by decide, rfl⟩
    | false =>
      and_intros
      exact g3 _ ⟨tp, n, h1, by omega, rfl⟩
  rintro ρ ⟨tp, n, htp, hn, rfl⟩
  refine seq_cut3 (fun ρ => ∃ (r q : List Ent), (∀ e ∈ r, EnOk e ∧ day e ≤ 9999) ∧ r.Nodup ∧ r.length ≤ 72 ∧ (∀ e ∈ q, EnOk e) ∧ q.Nodup ∧ q.length ≤ 76 ∧ ρ = [some (0, .raw (.ref a)), some (0, .raw (.ref b)), some (0, .lst (ws.map .str)), some (0, natD i), some (0, natD y), some (0, natD tp), some (0, natD n), some (0, .lst (r.map enD)), some (0, .lst (q.map enD)), none, none, none, none, none, none, none, none, none, none, none, none]) (fun N3 g3 => ?_) ?_
  · and_intros
    refine ⟨b, n, i, y, tp, ws, hb, rfl, hn, hi, hy, htp, hws, hok, fun r r1 r2 r3 => ?_⟩
    refine drawN 5 hb (by decide) (by decide) fun m hm => ?_
    refine ⟨b, m, i, y, tp, ws, hb, rfl, by omega, hi, hy, htp, hws, hok, fun q q1 q2 q3 => ?_⟩
    and_intros
    refine compD_pickS (xs := r) (ι := enD) (fun x => x ∉ q) enD (fun x hx => ⟨_, rfl, fun N h1 h2 => ?_, fun _ N hN => ?_⟩) (by rw [szL]; omega) fun as sub has => ?_
    · and_intros
      refine drawN 3 hb (by decide) (by decide) fun v _ => ?_
      and_intros
      cases decide ((v : Int) = 0) with
      | false =>
        and_intros
        exact h1
      | true =>
        and_intros
        refine gInE (r1 x hx).1 (fun e he => (q1 e he).1) ?_
        and_intros
        cases c : memB q x with
        | true =>
          and_intros
          exact h1
        | false =>
          and_intros
          exact h2 fun z => by rw [memB_iff.mpr z] at c; cases c
    · and_intros
      exact hN
    have sl := sub.length_le
    refine gCat_go (f := enD) (a := q) (b := as) (by rw [szL]; omega) ?_
    refine g3 _ ⟨r, q ++ as, r1, r2, by omega, app_ok (fun e he => (q1 e he).1) (fun e he => (r1 e (sub.subset he)).1), List.nodup_append.mpr ⟨q2, r2.sublist sub, fun x hx z hz e => has z hz (e ▸ hx)⟩, by rw [List.length_append]; omega, rfl⟩
  rintro ρ ⟨r, q, r1, r2, r3, q1, q2, q3, rfl⟩
  have okr : ∀ e ∈ r, EnOk e := fun e he => (r1 e he).1
  refine seq_cut3 (fun ρ => ∃ (t : List Ent) (sp : Nat), (∀ e, e ∈ t ↔ e ∈ r) ∧ t.length ≤ 144 ∧ sp ≤ t.length ∧ ρ = [some (0, .raw (.ref a)), some (0, .raw (.ref b)), some (0, .lst (ws.map .str)), some (0, natD i), some (0, natD y), some (0, natD tp), some (0, natD n), some (0, .lst (r.map enD)), some (0, .lst (q.map enD)), none, some (0, .lst (t.map enD)), some (0, natD sp), some (1, .lst ((t.take sp).map enD)), none, none, none, none, none, none, none, none]) (fun N3 g3 => ?_) ?_
  · and_intros
    refine compD_pickS (xs := r) (ι := enD) (fun x => True) enD (fun x hx => ⟨_, rfl, fun N h1 h2 => ?_, fun _ N hN => ?_⟩) (by rw [szL]; omega) fun as sub _ => ?_
    · and_intros
      refine drawN 3 hb (by decide) (by decide) fun v _ => ?_
      and_intros
      cases decide ((v : Int) = 0) with
      | false => exact h1
      | true => exact h2 trivial
    · and_intros
      exact hN
    have sl := sub.length_le
    refine gCat_go (f := enD) (a := r) (b := as) (by rw [szL]; omega) ?_
    refine ⟨b, r ++ as, hb, rfl, by rw [List.length_append]; omega, fun t ht => ?_⟩
    have tl := ht.length_eq
    rw [List.length_append] at tl
    and_intros
    rw [List.length_map, show (t.length : Int) + 1 = ((t.length + 1 : Nat) : Int) from rfl]
    refine drawN (t.length + 1) hb (by omega) (by omega) fun sp hsp => ?_
    and_intros
    refine gSlL_take (k := sp) ?_
    refine (show ∀ {Q : D → Prop}, Q (.lst ((t.take sp).map enD)) → gListL [.lst ((t.take sp).map enD)] Q from fun q => q) ?_
    exact g3 _ ⟨t, sp, fun e => ht.mem_iff.trans (by rw [List.mem_append]; exact ⟨fun h => h.elim id fun h => sub.subset h, .inl⟩), by omega, by omega, rfl⟩
  rintro ρ ⟨t, sp, tm, tl, hsp, rfl⟩
  have okt : ∀ e ∈ t, EnOk e := fun e he => okr e ((tm e).mp he)
  refine seq_cut3 (fun ρ => ∃ (x0 : Ent), EnOk x0 ∧ x0 ∉ r ∧ x0 ∉ q ∧ ρ = [some (0, .raw (.ref a)), some (0, .raw (.ref b)), some (0, .lst (ws.map .str)), some (0, natD i), some (0, natD y), some (0, natD tp), some (0, natD n), some (0, .lst (r.map enD)), some (0, .lst (q.map enD)), none, some (0, .lst (t.map enD)), some (0, natD sp), some (1, .lst ((t.take sp).map enD)), some (2, bkD C_Book (ordE (t.take sp))), some (2, bkD C_Book (ordE (q.take 1))), some (0, enD x0), none, none, none, none, none]) (fun N3 g3 => ?_) ?_
  · and_intros
    have tk : ∀ e ∈ t.take sp, EnOk e := fun e he => okt e (List.mem_of_mem_take he)
    have lk : (t.take sp).length ≤ 144 := by rw [List.length_take]; omega
    refine ⟨_, t.take sp, rfl, rfl, .inl (.inl rfl), tk, by omega, rfl, flat_bk _ _, ?_⟩
    and_intros
    refine gSlL_take (k := 1) ?_
    refine (show ∀ {Q : D → Prop}, Q (.tup ((q.take 1).map enD)) → gTupL [.lst ((q.take 1).map enD)] Q from fun q => q) ?_
    refine ⟨_, q.take 1, rfl, rfl, .inl (.inr rfl), fun e he => q1 e (List.mem_of_mem_take he), by rw [List.length_take]; omega, rfl, ?_⟩
    and_intros
    refine gCat_go (f := enD) (a := r) (b := q) (by rw [szL]; omega) ?_
    refine ⟨r ++ q, rfl, app_ok okr q1, by rw [List.length_append]; omega, fun x0 h1 h2 => ?_⟩
    exact g3 _ ⟨x0, h1, fun z => h2 (List.mem_append_left _ z), fun z => h2 (List.mem_append_right _ z), rfl⟩
  rintro ρ ⟨x0, hx0, nr, nq, rfl⟩
  refine seq_cut3 (fun ρ => ∃ (p12 p16 : Option (Nat × D)), ρ = [some (0, .raw (.ref a)), some (0, .raw (.ref b)), some (0, .lst (ws.map .str)), some (0, natD i), some (0, natD y), some (0, natD tp), some (0, natD n), some (0, .lst (r.map enD)), some (0, .lst (q.map enD)), none, some (0, .lst (t.map enD)), some (0, natD sp), p12, some (2, bkD C_Book (ordE r)), some (2, bkD C_Book (ordE q)), some (0, enD x0), p16, none, none, none, none]) (fun N3 g3 => ?_) ?_
  · and_intros
    refine ⟨by rw [List.length_map, List.length_take, szL]; omega, ?_⟩
    and_intros
    refine ⟨0, ixN_nat (k := 0) (by rw [List.length_append, List.length_singleton]; omega), ?_⟩
    and_intros
    rw [List.length_map, List.length_map]
    rw [show (if (q.length : Int) > (t.length : Int) then (q.length : Int) else (t.length : Int)) = ((max t.length q.length : Nat) : Int) from by split <;> omega]
    generalize ((List.map enD (List.take sp t) ++ [enD x0]).set 0 (enD x0)) = hz
    refine rng_go (by omega) ?_
    refine forD_pre (l := List.range' 0 (max t.length q.length)) (ι := natD) (fun dn ks ρ => ∃ (p16 : Option (Nat × D)), ρ = [some (0, .raw (.ref a)), some (0, .raw (.ref b)), some (0, .lst (ws.map .str)), some (0, natD i), some (0, natD y), some (0, natD tp), some (0, natD n), some (0, .lst (r.map enD)), some (0, .lst (q.map enD)), none, some (0, .lst (t.map enD)), some (0, natD sp), some (1, .lst hz), some (2, bkD C_Book (ordE (t.take (sp + dn.length)))), some (2, bkD C_Book (ordE (q.take (1 + dn.length)))), some (0, enD x0), p16, none, none, none, none]) ⟨none, rfl⟩ ?_ ?_
    · rintro dn k ks ρ hd ⟨p16, rfl⟩ N hN
      obtain ⟨hk, hkm⟩ := range_at hd
      have io : ∀ (e : List Ent), isObjD C_Book "tell" (bkD C_Book e) := fun e => ⟨rfl, rfl⟩
      refine ⟨_, rfl, ?_⟩
      rw [← hk]
      refine seq_cut (fun ρ => ρ = [some (0, .raw (.ref a)), some (0, .raw (.ref b)), some (0, .lst (ws.map .str)), some (0, natD i), some (0, natD y), some (0, natD tp), some (0, natD n), some (0, .lst (r.map enD)), some (0, .lst (q.map enD)), none, some (0, .lst (t.map enD)), some (0, natD sp), some (1, .lst hz), some (2, bkD C_Book (ordE (t.take (sp + (k + 1))))), some (2, bkD C_Book (ordE (q.take (1 + k)))), some (0, enD x0), some (0, natD k), none, none, none, none]) (fun N2 g2 => ?_) ?_
      · and_intros
        rw [List.length_map]
        by_cases c : sp + k < t.length
        · rw [decide_eq_true (by omega)]
          and_intros
          refine ⟨⟨_, rfl, rfl, io _, trivial⟩, ?_⟩
          rw [show (sp : Int) + (k : Int) = ((sp + k : Nat) : Int) from rfl]
          refine gIx_nat (mapg c) ?_
          refine ⟨_, rfl, rfl, io _, ?_⟩
          refine ⟨_, t[sp + k], rfl, rfl, fun e he => okt e (List.mem_of_mem_take (ordE_mem.mp he)), okt _ (List.getElem_mem c), Nat.le_trans (ordE_len _) (by rw [List.length_take]; omega), rfl, ?_⟩
          and_intros
          refine g2 _ ?_
          rw [tell_take okt c]
          rfl
        · rw [decide_eq_false (by omega)]
          and_intros
          refine g2 _ ?_
          rw [← Nat.add_assoc, take_past c]
      rintro ρ rfl
      and_intros
      rw [List.length_map]
      by_cases c : 1 + k < q.length
      · rw [decide_eq_true (by omega)]
        and_intros
        refine ⟨⟨_, rfl, rfl, io _, trivial⟩, ?_⟩
        rw [show (1 : Int) + (k : Int) = ((1 + k : Nat) : Int) from rfl]
        refine gIx_nat (mapg c) ?_
        refine ⟨_, rfl, rfl, io _, ?_⟩
        refine ⟨_, q[1 + k], rfl, rfl, fun e he => q1 e (List.mem_of_mem_take (ordE_mem.mp he)), q1 _ (List.getElem_mem c), Nat.le_trans (ordE_len _) (by rw [List.length_take]; omega), rfl, ?_⟩
        and_intros
        refine hN _ ⟨some (0, natD k), ?_⟩
        rw [tell_take q1 c, List.length_append, List.length_singleton, ← hk, show q.take (1 + (k + 1)) = q.take (1 + k + 1) from by rw [Nat.add_assoc]]
        rfl
      · rw [decide_eq_false (by omega)]
        and_intros
        refine hN _ ⟨some (0, natD k), ?_⟩
        rw [List.length_append, List.length_singleton, ← hk, show q.take (1 + (k + 1)) = q.take (1 + k) from by rw [← Nat.add_assoc]; exact take_past c]
    · rintro ρ ⟨p16, rfl⟩
      rw [List.length_range', List.take_of_length_le (by omega), List.take_of_length_le (by omega), ordE_congr okr tm]
      exact g3 _ ⟨_, _, rfl⟩
  rintro ρ ⟨p12, p16, rfl⟩
  have okR : ∀ e ∈ ordE r, EnOk e := fun e he => okr e (ordE_mem.mp he)
  have okQ : ∀ e ∈ ordE q, EnOk e := fun e he => q1 e (ordE_mem.mp he)
  have lR := ordE_len r
  have lQ := ordE_len q
  have hj : ∀ (a : List Ent) (Q : D → Prop), (∀ e ∈ a, EnOk e) → a.length ≤ 400 → Q (.bl true) → w_law_has_just C_Book B [bkD C_Book a, .lst (a.map enD)] Q := fun a Q h1 h2 h3 => ⟨a, rfl, h1, h2, h3⟩
  have io : ∀ (mt : Str) (a : List Ent), (mt = "until" ∨ mt = "tell") → isObjD C_Book mt (bkD C_Book a) := fun mt a h => by rcases h with rfl | rfl <;> exact ⟨rfl, rfl⟩
  refine seq_cut3 (fun ρ => ρ = [some (0, .raw (.ref a)), some (0, .raw (.ref b)), some (0, .lst (ws.map .str)), some (0, natD i), some (0, natD y), some (0, natD tp), some (0, natD n), some (0, .lst (r.map enD)), some (0, .lst (q.map enD)), none, some (0, .lst (t.map enD)), some (0, natD sp), p12, some (2, bkD C_Book (ordE r)), some (0, bkD C_Book (ordE q)), some (0, enD x0), p16, some (0, .lst ((ordE r).map enD)), some (0, .lst ((ordE q).map enD)), none, none]) (fun N3 g3 => ?_) ?_
  · and_intros
    refine ⟨r, rfl, okr, r2, by omega, ?_⟩
    refine ⟨q, rfl, q1, q2, by omega, ?_⟩
    refine hj (ordE r) _ okR (by omega) ⟨rfl, ?_⟩
    and_intros
    refine hj (ordE q) _ okQ (by omega) ?_
    and_intros
    refine ⟨b, ordE r, hb, rfl, okR, by omega, rfl, ?_⟩
    and_intros
    exact g3 _ rfl
  rintro ρ rfl
  refine seq_cut3 (fun ρ => ρ = [some (0, .raw (.ref a)), some (0, .raw (.ref b)), some (0, .lst (ws.map .str)), some (0, natD i), some (0, natD y), some (0, natD tp), some (0, natD n), some (0, .lst (r.map enD)), some (0, .lst (q.map enD)), none, some (0, .lst (t.map enD)), some (0, natD sp), p12, some (2, bkD C_Book (ordE r)), some (0, bkD C_Book (ordE q)), some (0, enD x0), p16, some (0, .lst ((ordE r).map enD)), some (0, .lst ((ordE q).map enD)), none, none]) (fun N3 g3 => ?_) ?_
  · and_intros
    refine ⟨b, ordE r, hb, rfl, okR, ordE_nodup r, ordE_id okr, by omega, rfl, ?_⟩
    and_intros
    refine ⟨ordE r, ordE q, rfl, okR, okQ, ordE_nodup r, ordE_nodup q, ordE_id okr, ordE_id q1, by omega, rfl, ?_⟩
    and_intros
    refine ⟨b, ordE r, hb, rfl, okR, ordE_nodup r, ordE_id okr, by omega, rfl, ?_⟩
    and_intros
    rw [List.length_map]
    by_cases c : 0 < (ordE r).length
    · rw [decide_eq_true (by omega)]
      and_intros
      refine ⟨⟨_, rfl, rfl, io _ _ (.inr rfl), trivial⟩, ?_⟩
      refine drawN (ordE r).length hb c (by omega) fun v hv => ?_
      refine gIx_nat (mapg hv) ?_
      refine ⟨_, rfl, rfl, io _ _ (.inr rfl), ?_⟩
      have hm := List.getElem_mem hv
      refine ⟨_, (ordE r)[v], rfl, rfl, okR, okR _ hm, by omega, rfl, ?_⟩
      and_intros
      refine g3 _ ?_
      rw [show ordE (ordE r ++ [(ordE r)[v]]) = ordE r from (ordE_congr okR fun e => by
        rw [List.mem_append, List.mem_singleton]
        exact ⟨fun h => h.elim id fun z => by rw [z]; exact hm, .inl⟩).trans (ordE_id okr)]
      rfl
    · rw [decide_eq_false (by omega)]
      and_intros
      exact g3 _ rfl
  rintro ρ rfl
  and_intros
  refine ⟨io _ _ (.inl rfl), ordE r, 9999, rfl, okR, by omega, ?_⟩
  rw [show (ordE r).filter (fun e => decide (day e ≤ 9999)) = ordE r from List.filter_eq_self.mpr fun e he => decide_eq_true (r1 e (ordE_mem.mp he)).2, ordE_id okr]
  refine ⟨flat_bk _ _, rfl, rfl, ordE r, ordE q, rfl, okR, okQ, by omega, flat_bk _ _, ?_⟩
  have okU : ∀ e ∈ ordE (ordE r ++ ordE q), EnOk e := fun e he => app_ok okR okQ e (ordE_mem.mp he)
  have lU := ordE_len (ordE r ++ ordE q)
  rw [List.length_append] at lU
  refine hj (ordE r) _ okR (by omega) ⟨rfl, ?_⟩
  and_intros
  refine ⟨⟨_, rfl, rfl, io _ _ (.inr rfl), trivial⟩, ⟨_, rfl, rfl, io _ _ (.inr rfl), ?_⟩⟩
  have nR : x0 ∉ ordE r := fun z => nr (ordE_mem.mp z)
  have o3 := app_ok okR (one_ok hx0)
  have l3 : (ordE r ++ [x0]).length ≤ 80 := by rw [List.length_append, List.length_singleton]; omega
  have o4 : ∀ e ∈ ordE (ordE r ++ [x0]), EnOk e := fun e he => o3 e (ordE_mem.mp he)
  have l4 := ordE_len (ordE r ++ [x0])
  refine ⟨ordE r, x0, rfl, rfl, okR, hx0, by omega, rfl, ?_⟩
  refine hj (ordE r) _ okR (by omega) ?_
  and_intros
  refine compD_fil (fun e => !memB (ordE r) e) enD (fun x hx => ⟨_, rfl, fun N hN => ?_, fun _ N hN => ?_⟩) (by rw [szL]; omega) ?_
  · and_intros
    refine gInE (okQ x hx) okR ?_
    rw [Bool.true_xor]
    exact hN
  · and_intros
    exact hN
  have fl : ((ordE q).filter fun e => !memB (ordE r) e).length ≤ (ordE q).length := List.length_filter_le _ _
  refine gCat_go (by rw [szL]; omega) ?_
  have ndF : (ordE r ++ (ordE q).filter (fun e => !memB (ordE r) e)).Nodup := List.nodup_append.mpr ⟨ordE_nodup r, (ordE_nodup q).filter _, fun a ha c hc e => by
    have h1 := (List.mem_filter.mp hc).2
    rw [← e, memB_iff.mpr ha] at h1
    cases h1⟩
  refine ⟨_, rfl, app_ok okR fun e he => okQ e (List.mem_filter.mp he).1, ndF, by rw [List.length_append]; omega, ?_⟩
  have eU : ordE (ordE r ++ (ordE q).filter fun e => !memB (ordE r) e) = ordE (ordE r ++ ordE q) := ordE_congr (app_ok okR okQ) fun e => by
    rw [List.mem_append, List.mem_append, List.mem_filter]
    constructor
    · rintro (h | h)
      · exact .inl h
      · exact .inr h.1
    · rintro (h | h)
      · exact .inl h
      · by_cases c : e ∈ ordE r
        · exact .inl c
        · refine .inr ⟨h, ?_⟩
          cases z : memB (ordE r) e with
          | false => rfl
          | true => exact absurd (memB_iff.mp z) c
  rw [eU]
  refine hj _ _ okU (by omega) ?_
  and_intros
  refine ⟨by decide, gCat_go (f := enD) (a := ordE r) (b := [x0]) (by rw [szL, List.length_singleton]; omega) ?_⟩
  refine ⟨_, rfl, o3, snoc_nd (ordE_nodup r) nR, by omega, ?_⟩
  refine hj _ _ o4 (by omega) ?_
  and_intros
  refine ⟨rfl, _, x0, rfl, o4, hx0, fun c hc => ⟨c, rfl, ?_⟩⟩
  have e1 : c = true := hc.mpr (ordE_mem.mpr (by simp))
  subst e1
  and_intros
  refine ⟨rfl, _, x0, rfl, okR, hx0, fun c hc => ⟨c, rfl, ?_⟩⟩
  have e2 : c = false := by
    cases c with
    | false => rfl
    | true => exact absurd (hc.mp rfl) nR
  subst e2
  and_intros
  refine ⟨_, [], rfl, rfl, .inr ⟨rfl, rfl⟩, (fun _ h => nomatch h), by decide, rfl, by decide, ?_⟩
  rw [ordE_nil]
  refine hj [] _ (fun _ h => nomatch h) (by decide) ?_
  rfl
end
end GK
namespace GK
open PySem PySem.Spec PyProof.Rows L2
open PySem
theorem all_mk {l : PySem.W.OpenLaw} {w : World} {K : PySem.W.Frag} {h : Heap} {mg : Str → Option Value} {fa f_in_order f_Book___init f_Book_tell f_Book_until f_Book___eq f_Book___ne f_Book___or f_Book___contains f_Book___len f_Book___iter f_law_bag f_law_draw f_law_name f_law_names f_law_entry f_law_drawn f_law_mixed f_law_fresh f_law_order f_law_changed f_law_near f_law_same f_law_has_just f_law_alike f_law_apart f_law_members f_law_compared f_law_joined f_law_cut f_law C_Book t_Book___init de_Book___init_0 : Addr} (X : K.In h) (G : h.Ns mainGlobals mg) (hfa : mg "law" = some (.ref fa)) {od_in_order an_in_order od_Book___init an_Book___init od_Book_tell an_Book_tell od_Book_until an_Book_until od_Book___eq an_Book___eq od_Book___ne an_Book___ne od_Book___or an_Book___or od_Book___contains an_Book___contains od_Book___len an_Book___len od_Book___iter an_Book___iter od_law_bag an_law_bag od_law_draw an_law_draw od_law_name an_law_name od_law_names an_law_names od_law_entry an_law_entry od_law_drawn an_law_drawn od_law_mixed an_law_mixed od_law_fresh an_law_fresh od_law_order an_law_order od_law_changed an_law_changed od_law_near an_law_near od_law_same an_law_same od_law_has_just an_law_has_just od_law_alike an_law_alike od_law_apart an_law_apart od_law_members an_law_members od_law_compared an_law_compared od_law_joined an_law_joined od_law_cut an_law_cut od_law an_law tod_Book___init eo_Book___init_0 : Option Addr} {sl_in_order sl_Book___init sl_Book_tell sl_Book_until sl_Book___eq sl_Book___ne sl_Book___or sl_Book___contains sl_Book___len sl_Book___iter sl_law_bag sl_law_draw sl_law_name sl_law_names sl_law_entry sl_law_drawn sl_law_mixed sl_law_fresh sl_law_order sl_law_changed sl_law_near sl_law_same sl_law_has_just sl_law_alike sl_law_apart sl_law_members sl_law_compared sl_law_joined sl_law_cut sl_law tsl_Book___init es_Book___init_0 : Array (Option Value)} {oc_in_order kV_in_order dc_in_order pm_in_order cd_in_order ct_in_order oc_Book___init kV_Book___init dc_Book___init pm_Book___init cd_Book___init ct_Book___init oc_Book_tell kV_Book_tell dc_Book_tell pm_Book_tell cd_Book_tell ct_Book_tell oc_Book_until kV_Book_until dc_Book_until pm_Book_until cd_Book_until ct_Book_until oc_Book___eq kV_Book___eq dc_Book___eq pm_Book___eq cd_Book___eq ct_Book___eq oc_Book___ne kV_Book___ne dc_Book___ne pm_Book___ne cd_Book___ne ct_Book___ne oc_Book___or kV_Book___or dc_Book___or pm_Book___or cd_Book___or ct_Book___or oc_Book___contains kV_Book___contains dc_Book___contains pm_Book___contains cd_Book___contains ct_Book___contains oc_Book___len kV_Book___len dc_Book___len pm_Book___len cd_Book___len ct_Book___len oc_Book___iter kV_Book___iter dc_Book___iter pm_Book___iter cd_Book___iter ct_Book___iter oc_law_bag kV_law_bag dc_law_bag pm_law_bag cd_law_bag ct_law_bag oc_law_draw kV_law_draw dc_law_draw pm_law_draw cd_law_draw ct_law_draw oc_law_name kV_law_name dc_law_name pm_law_name cd_law_name ct_law_name oc_law_names kV_law_names dc_law_names pm_law_names cd_law_names ct_law_names oc_law_entry kV_law_entry dc_law_entry pm_law_entry cd_law_entry ct_law_entry oc_law_drawn kV_law_drawn dc_law_drawn pm_law_drawn cd_law_drawn ct_law_drawn oc_law_mixed kV_law_mixed dc_law_mixed pm_law_mixed cd_law_mixed ct_law_mixed oc_law_fresh kV_law_fresh dc_law_fresh pm_law_fresh cd_law_fresh ct_law_fresh oc_law_order kV_law_order dc_law_order pm_law_order cd_law_order ct_law_order oc_law_changed kV_law_changed dc_law_changed pm_law_changed cd_law_changed ct_law_changed oc_law_near kV_law_near dc_law_near pm_law_near cd_law_near ct_law_near oc_law_same kV_law_same dc_law_same pm_law_same cd_law_same ct_law_same oc_law_has_just kV_law_has_just dc_law_has_just pm_law_has_just cd_law_has_just ct_law_has_just oc_law_alike kV_law_alike dc_law_alike pm_law_alike cd_law_alike ct_law_alike oc_law_apart kV_law_apart dc_law_apart pm_law_apart cd_law_apart ct_law_apart oc_law_members kV_law_members dc_law_members pm_law_members cd_law_members ct_law_members oc_law_compared kV_law_compared dc_law_compared pm_law_compared cd_law_compared ct_law_compared oc_law_joined kV_law_joined dc_law_joined pm_law_joined cd_law_joined ct_law_joined oc_law_cut kV_law_cut dc_law_cut pm_law_cut cd_law_cut ct_law_cut oc_law kV_law dc_law pm_law cd_law ct_law toc_Book___init : Value} {tn_Book___init en_Book___init_0 : Nat}
    (aC_Book : PySem.W.nsIn K mainGlobals "Book" = some (some (.ref C_Book))) (pg_Book : PySem.W.plainGet K C_Book Str.empty = true) (hd_Book : PySem.W.hasDictIn K C_Book = true) (po_Book : PySem.W.plainOver K C_Book = true) (sa_Book : PySem.W.findIn K (.ref C_Book) "__setattr__" = some (some (.builtin "object.__setattr__"))) (mk_Book : PySem.W.makesIn K C_Book = true) (kc_Book : PySem.W.keepIn K (.ref C_Book) = true)
    (n_Book__rows : PySem.W.findIn K (.ref C_Book) "_rows" = some none)
    (sf_Book : PySem.W.selfFirst K C_Book = true)
    (ns_Book_0 : PySem.W.subIn K (.ref C_Book) (.type "tuple") = some false)
    (ns_Book_1 : PySem.W.subIn K (.ref C_Book) (.type "dict") = some false)
    (ns_Book_2 : PySem.W.subIn K (.ref C_Book) (.type "str") = some false)
    (ns_Book_3 : PySem.W.subIn K (.ref C_Book) (.type "int") = some false)
    (ns_Book_4 : PySem.W.subIn K (.ref C_Book) (.type "NoneType") = some false)
    (ns_Book_5 : PySem.W.subIn K (.ref C_Book) (.type "list") = some false)
    (ia_Book : PySem.W.findIn K (.ref C_Book) "__class__" = some (some (.builtin "object.__class__"))) (ib_Book : PySem.W.specialIn K (.builtin "object.__class__") "__get__" = some (some (.builtin "getset_descriptor.__get__"))) (ic_Book : PySem.W.takesIn K (.builtin "object.__class__") = some true) (id_Book : PySem.W.mroIn K C_Book (.type "object") = some true) (ie_Book : PySem.W.isClsIn K C_Book = true) (if_Book : PySem.W.typeIn K (.ref C_Book) = some (.type "type"))
    (ik_Book_0 : PySem.W.subIn K (.type "tuple") (.ref C_Book) = some false)
    (ik_Book_1 : PySem.W.subIn K (.type "list") (.ref C_Book) = some false)
    (ik_Book_2 : PySem.W.subIn K (.type "dict") (.ref C_Book) = some false)
    (ik_Book_3 : PySem.W.subIn K (.type "str") (.ref C_Book) = some false)
    (ik_Book_4 : PySem.W.subIn K (.type "int") (.ref C_Book) = some false)
    (ik_Book_5 : PySem.W.subIn K (.type "bool") (.ref C_Book) = some false)
    (ik_Book_6 : PySem.W.subIn K (.type "NoneType") (.ref C_Book) = some false)
    (a_in_order : PySem.W.nsIn K mainGlobals "in_order" = some (some (.ref f_in_order)))
    (l_in_order : K.lookup f_in_order = some ⟨oc_in_order, od_in_order, .func (PySem.W.fnOf "in_order" "in_order" (defArgs s_in_order) (defBody s_in_order) (defScope s_in_order) .none kV_in_order dc_in_order pm_in_order an_in_order cd_in_order ct_in_order), sl_in_order⟩) (c_in_order_ : PySem.W.codeIn K cd_in_order "in_order" = true) (k_in_order : PySem.W.keepIn K (.ref f_in_order) = true)
    (a_Book___init : PySem.W.findIn K (.ref C_Book) "__init__" = some (some (.ref f_Book___init))) (i_Book___init : PySem.W.isFn K (.ref f_Book___init) = true)
    (l_Book___init : K.lookup f_Book___init = some ⟨oc_Book___init, od_Book___init, .func (PySem.W.fnOf "__init__" "Book.__init__" (defArgs s_Book___init) (defBody s_Book___init) (defScope s_Book___init) (.ref t_Book___init) kV_Book___init dc_Book___init pm_Book___init an_Book___init cd_Book___init ct_Book___init), sl_Book___init⟩) (c_Book___init_ : PySem.W.codeIn K cd_Book___init "Book.__init__" = true) (k_Book___init : PySem.W.keepIn K (.ref f_Book___init) = true)
    (t_Book___init_l : K.lookup t_Book___init = some ⟨toc_Book___init, tod_Book___init, .seq #[(.ref de_Book___init_0)] tn_Book___init, tsl_Book___init⟩)
    (e0_Book___init_0 : K.lookup de_Book___init_0 = some ⟨.type "tuple", eo_Book___init_0, .seq #[] en_Book___init_0, es_Book___init_0⟩)
    (a_Book_tell : PySem.W.findIn K (.ref C_Book) "tell" = some (some (.ref f_Book_tell))) (i_Book_tell : PySem.W.isFn K (.ref f_Book_tell) = true)
    (l_Book_tell : K.lookup f_Book_tell = some ⟨oc_Book_tell, od_Book_tell, .func (PySem.W.fnOf "tell" "Book.tell" (defArgs s_Book_tell) (defBody s_Book_tell) (defScope s_Book_tell) .none kV_Book_tell dc_Book_tell pm_Book_tell an_Book_tell cd_Book_tell ct_Book_tell), sl_Book_tell⟩) (c_Book_tell_ : PySem.W.codeIn K cd_Book_tell "Book.tell" = true) (k_Book_tell : PySem.W.keepIn K (.ref f_Book_tell) = true)
    (a_Book_until : PySem.W.findIn K (.ref C_Book) "until" = some (some (.ref f_Book_until))) (i_Book_until : PySem.W.isFn K (.ref f_Book_until) = true)
    (l_Book_until : K.lookup f_Book_until = some ⟨oc_Book_until, od_Book_until, .func (PySem.W.fnOf "until" "Book.until" (defArgs s_Book_until) (defBody s_Book_until) (defScope s_Book_until) .none kV_Book_until dc_Book_until pm_Book_until an_Book_until cd_Book_until ct_Book_until), sl_Book_until⟩) (c_Book_until_ : PySem.W.codeIn K cd_Book_until "Book.until" = true) (k_Book_until : PySem.W.keepIn K (.ref f_Book_until) = true)
    (a_Book___eq : PySem.W.findIn K (.ref C_Book) "__eq__" = some (some (.ref f_Book___eq))) (i_Book___eq : PySem.W.isFn K (.ref f_Book___eq) = true)
    (l_Book___eq : K.lookup f_Book___eq = some ⟨oc_Book___eq, od_Book___eq, .func (PySem.W.fnOf "__eq__" "Book.__eq__" (defArgs s_Book___eq) (defBody s_Book___eq) (defScope s_Book___eq) .none kV_Book___eq dc_Book___eq pm_Book___eq an_Book___eq cd_Book___eq ct_Book___eq), sl_Book___eq⟩) (c_Book___eq_ : PySem.W.codeIn K cd_Book___eq "Book.__eq__" = true) (k_Book___eq : PySem.W.keepIn K (.ref f_Book___eq) = true)
    (a_Book___ne : PySem.W.findIn K (.ref C_Book) "__ne__" = some (some (.ref f_Book___ne))) (i_Book___ne : PySem.W.isFn K (.ref f_Book___ne) = true)
    (l_Book___ne : K.lookup f_Book___ne = some ⟨oc_Book___ne, od_Book___ne, .func (PySem.W.fnOf "__ne__" "Book.__ne__" (defArgs s_Book___ne) (defBody s_Book___ne) (defScope s_Book___ne) .none kV_Book___ne dc_Book___ne pm_Book___ne an_Book___ne cd_Book___ne ct_Book___ne), sl_Book___ne⟩) (c_Book___ne_ : PySem.W.codeIn K cd_Book___ne "Book.__ne__" = true) (k_Book___ne : PySem.W.keepIn K (.ref f_Book___ne) = true)
    (a_Book___or : PySem.W.findIn K (.ref C_Book) "__or__" = some (some (.ref f_Book___or))) (i_Book___or : PySem.W.isFn K (.ref f_Book___or) = true)
    (l_Book___or : K.lookup f_Book___or = some ⟨oc_Book___or, od_Book___or, .func (PySem.W.fnOf "__or__" "Book.__or__" (defArgs s_Book___or) (defBody s_Book___or) (defScope s_Book___or) .none kV_Book___or dc_Book___or pm_Book___or an_Book___or cd_Book___or ct_Book___or), sl_Book___or⟩) (c_Book___or_ : PySem.W.codeIn K cd_Book___or "Book.__or__" = true) (k_Book___or : PySem.W.keepIn K (.ref f_Book___or) = true)
    (a_Book___contains : PySem.W.findIn K (.ref C_Book) "__contains__" = some (some (.ref f_Book___contains))) (i_Book___contains : PySem.W.isFn K (.ref f_Book___contains) = true)
    (l_Book___contains : K.lookup f_Book___contains = some ⟨oc_Book___contains, od_Book___contains, .func (PySem.W.fnOf "__contains__" "Book.__contains__" (defArgs s_Book___contains) (defBody s_Book___contains) (defScope s_Book___contains) .none kV_Book___contains dc_Book___contains pm_Book___contains an_Book___contains cd_Book___contains ct_Book___contains), sl_Book___contains⟩) (c_Book___contains_ : PySem.W.codeIn K cd_Book___contains "Book.__contains__" = true) (k_Book___contains : PySem.W.keepIn K (.ref f_Book___contains) = true)
    (a_Book___len : PySem.W.findIn K (.ref C_Book) "__len__" = some (some (.ref f_Book___len))) (i_Book___len : PySem.W.isFn K (.ref f_Book___len) = true)
    (l_Book___len : K.lookup f_Book___len = some ⟨oc_Book___len, od_Book___len, .func (PySem.W.fnOf "__len__" "Book.__len__" (defArgs s_Book___len) (defBody s_Book___len) (defScope s_Book___len) .none kV_Book___len dc_Book___len pm_Book___len an_Book___len cd_Book___len ct_Book___len), sl_Book___len⟩) (c_Book___len_ : PySem.W.codeIn K cd_Book___len "Book.__len__" = true) (k_Book___len : PySem.W.keepIn K (.ref f_Book___len) = true)
    (a_Book___iter : PySem.W.findIn K (.ref C_Book) "__iter__" = some (some (.ref f_Book___iter))) (i_Book___iter : PySem.W.isFn K (.ref f_Book___iter) = true)
    (l_Book___iter : K.lookup f_Book___iter = some ⟨oc_Book___iter, od_Book___iter, .func (PySem.W.fnOf "__iter__" "Book.__iter__" (defArgs s_Book___iter) (defBody s_Book___iter) (defScope s_Book___iter) .none kV_Book___iter dc_Book___iter pm_Book___iter an_Book___iter cd_Book___iter ct_Book___iter), sl_Book___iter⟩) (c_Book___iter_ : PySem.W.codeIn K cd_Book___iter "Book.__iter__" = true) (k_Book___iter : PySem.W.keepIn K (.ref f_Book___iter) = true)
    (a_law_bag : PySem.W.nsIn K mainGlobals "_law_bag" = some (some (.ref f_law_bag)))
    (l_law_bag : K.lookup f_law_bag = some ⟨oc_law_bag, od_law_bag, .func (PySem.W.fnOf "_law_bag" "_law_bag" (defArgs sBag) (defBody sBag) (defScope sBag) .none kV_law_bag dc_law_bag pm_law_bag an_law_bag cd_law_bag ct_law_bag), sl_law_bag⟩) (c_law_bag_ : PySem.W.codeIn K cd_law_bag "_law_bag" = true) (k_law_bag : PySem.W.keepIn K (.ref f_law_bag) = true)
    (a_law_draw : PySem.W.nsIn K mainGlobals "_law_draw" = some (some (.ref f_law_draw)))
    (l_law_draw : K.lookup f_law_draw = some ⟨oc_law_draw, od_law_draw, .func (PySem.W.fnOf "_law_draw" "_law_draw" (defArgs sDraw) (defBody sDraw) (defScope sDraw) .none kV_law_draw dc_law_draw pm_law_draw an_law_draw cd_law_draw ct_law_draw), sl_law_draw⟩) (c_law_draw_ : PySem.W.codeIn K cd_law_draw "_law_draw" = true) (k_law_draw : PySem.W.keepIn K (.ref f_law_draw) = true)
    (a_law_name : PySem.W.nsIn K mainGlobals "_law_name" = some (some (.ref f_law_name)))
    (l_law_name : K.lookup f_law_name = some ⟨oc_law_name, od_law_name, .func (PySem.W.fnOf "_law_name" "_law_name" (defArgs s_law_name) (defBody s_law_name) (defScope s_law_name) .none kV_law_name dc_law_name pm_law_name an_law_name cd_law_name ct_law_name), sl_law_name⟩) (c_law_name_ : PySem.W.codeIn K cd_law_name "_law_name" = true) (k_law_name : PySem.W.keepIn K (.ref f_law_name) = true)
    (a_law_names : PySem.W.nsIn K mainGlobals "_law_names" = some (some (.ref f_law_names)))
    (l_law_names : K.lookup f_law_names = some ⟨oc_law_names, od_law_names, .func (PySem.W.fnOf "_law_names" "_law_names" (defArgs s_law_names) (defBody s_law_names) (defScope s_law_names) .none kV_law_names dc_law_names pm_law_names an_law_names cd_law_names ct_law_names), sl_law_names⟩) (c_law_names_ : PySem.W.codeIn K cd_law_names "_law_names" = true) (k_law_names : PySem.W.keepIn K (.ref f_law_names) = true)
    (a_law_entry : PySem.W.nsIn K mainGlobals "_law_entry" = some (some (.ref f_law_entry)))
    (l_law_entry : K.lookup f_law_entry = some ⟨oc_law_entry, od_law_entry, .func (PySem.W.fnOf "_law_entry" "_law_entry" (defArgs s_law_entry) (defBody s_law_entry) (defScope s_law_entry) .none kV_law_entry dc_law_entry pm_law_entry an_law_entry cd_law_entry ct_law_entry), sl_law_entry⟩) (c_law_entry_ : PySem.W.codeIn K cd_law_entry "_law_entry" = true) (k_law_entry : PySem.W.keepIn K (.ref f_law_entry) = true)
    (a_law_drawn : PySem.W.nsIn K mainGlobals "_law_drawn" = some (some (.ref f_law_drawn)))
    (l_law_drawn : K.lookup f_law_drawn = some ⟨oc_law_drawn, od_law_drawn, .func (PySem.W.fnOf "_law_drawn" "_law_drawn" (defArgs s_law_drawn) (defBody s_law_drawn) (defScope s_law_drawn) .none kV_law_drawn dc_law_drawn pm_law_drawn an_law_drawn cd_law_drawn ct_law_drawn), sl_law_drawn⟩) (c_law_drawn_ : PySem.W.codeIn K cd_law_drawn "_law_drawn" = true) (k_law_drawn : PySem.W.keepIn K (.ref f_law_drawn) = true)
    (a_law_mixed : PySem.W.nsIn K mainGlobals "_law_mixed" = some (some (.ref f_law_mixed)))
    (l_law_mixed : K.lookup f_law_mixed = some ⟨oc_law_mixed, od_law_mixed, .func (PySem.W.fnOf "_law_mixed" "_law_mixed" (defArgs s_law_mixed) (defBody s_law_mixed) (defScope s_law_mixed) .none kV_law_mixed dc_law_mixed pm_law_mixed an_law_mixed cd_law_mixed ct_law_mixed), sl_law_mixed⟩) (c_law_mixed_ : PySem.W.codeIn K cd_law_mixed "_law_mixed" = true) (k_law_mixed : PySem.W.keepIn K (.ref f_law_mixed) = true)
    (a_law_fresh : PySem.W.nsIn K mainGlobals "_law_fresh" = some (some (.ref f_law_fresh)))
    (l_law_fresh : K.lookup f_law_fresh = some ⟨oc_law_fresh, od_law_fresh, .func (PySem.W.fnOf "_law_fresh" "_law_fresh" (defArgs s_law_fresh) (defBody s_law_fresh) (defScope s_law_fresh) .none kV_law_fresh dc_law_fresh pm_law_fresh an_law_fresh cd_law_fresh ct_law_fresh), sl_law_fresh⟩) (c_law_fresh_ : PySem.W.codeIn K cd_law_fresh "_law_fresh" = true) (k_law_fresh : PySem.W.keepIn K (.ref f_law_fresh) = true)
    (a_law_order : PySem.W.nsIn K mainGlobals "_law_order" = some (some (.ref f_law_order)))
    (l_law_order : K.lookup f_law_order = some ⟨oc_law_order, od_law_order, .func (PySem.W.fnOf "_law_order" "_law_order" (defArgs s_law_order) (defBody s_law_order) (defScope s_law_order) .none kV_law_order dc_law_order pm_law_order an_law_order cd_law_order ct_law_order), sl_law_order⟩) (c_law_order_ : PySem.W.codeIn K cd_law_order "_law_order" = true) (k_law_order : PySem.W.keepIn K (.ref f_law_order) = true)
    (a_law_changed : PySem.W.nsIn K mainGlobals "_law_changed" = some (some (.ref f_law_changed)))
    (l_law_changed : K.lookup f_law_changed = some ⟨oc_law_changed, od_law_changed, .func (PySem.W.fnOf "_law_changed" "_law_changed" (defArgs s_law_changed) (defBody s_law_changed) (defScope s_law_changed) .none kV_law_changed dc_law_changed pm_law_changed an_law_changed cd_law_changed ct_law_changed), sl_law_changed⟩) (c_law_changed_ : PySem.W.codeIn K cd_law_changed "_law_changed" = true) (k_law_changed : PySem.W.keepIn K (.ref f_law_changed) = true)
    (a_law_near : PySem.W.nsIn K mainGlobals "_law_near" = some (some (.ref f_law_near)))
    (l_law_near : K.lookup f_law_near = some ⟨oc_law_near, od_law_near, .func (PySem.W.fnOf "_law_near" "_law_near" (defArgs s_law_near) (defBody s_law_near) (defScope s_law_near) .none kV_law_near dc_law_near pm_law_near an_law_near cd_law_near ct_law_near), sl_law_near⟩) (c_law_near_ : PySem.W.codeIn K cd_law_near "_law_near" = true) (k_law_near : PySem.W.keepIn K (.ref f_law_near) = true)
    (a_law_same : PySem.W.nsIn K mainGlobals "_law_same" = some (some (.ref f_law_same)))
    (l_law_same : K.lookup f_law_same = some ⟨oc_law_same, od_law_same, .func (PySem.W.fnOf "_law_same" "_law_same" (defArgs s_law_same) (defBody s_law_same) (defScope s_law_same) .none kV_law_same dc_law_same pm_law_same an_law_same cd_law_same ct_law_same), sl_law_same⟩) (c_law_same_ : PySem.W.codeIn K cd_law_same "_law_same" = true) (k_law_same : PySem.W.keepIn K (.ref f_law_same) = true)
    (a_law_has_just : PySem.W.nsIn K mainGlobals "_law_has_just" = some (some (.ref f_law_has_just)))
    (l_law_has_just : K.lookup f_law_has_just = some ⟨oc_law_has_just, od_law_has_just, .func (PySem.W.fnOf "_law_has_just" "_law_has_just" (defArgs s_law_has_just) (defBody s_law_has_just) (defScope s_law_has_just) .none kV_law_has_just dc_law_has_just pm_law_has_just an_law_has_just cd_law_has_just ct_law_has_just), sl_law_has_just⟩) (c_law_has_just_ : PySem.W.codeIn K cd_law_has_just "_law_has_just" = true) (k_law_has_just : PySem.W.keepIn K (.ref f_law_has_just) = true)
    (a_law_alike : PySem.W.nsIn K mainGlobals "_law_alike" = some (some (.ref f_law_alike)))
    (l_law_alike : K.lookup f_law_alike = some ⟨oc_law_alike, od_law_alike, .func (PySem.W.fnOf "_law_alike" "_law_alike" (defArgs s_law_alike) (defBody s_law_alike) (defScope s_law_alike) .none kV_law_alike dc_law_alike pm_law_alike an_law_alike cd_law_alike ct_law_alike), sl_law_alike⟩) (c_law_alike_ : PySem.W.codeIn K cd_law_alike "_law_alike" = true) (k_law_alike : PySem.W.keepIn K (.ref f_law_alike) = true)
    (a_law_apart : PySem.W.nsIn K mainGlobals "_law_apart" = some (some (.ref f_law_apart)))
    (l_law_apart : K.lookup f_law_apart = some ⟨oc_law_apart, od_law_apart, .func (PySem.W.fnOf "_law_apart" "_law_apart" (defArgs s_law_apart) (defBody s_law_apart) (defScope s_law_apart) .none kV_law_apart dc_law_apart pm_law_apart an_law_apart cd_law_apart ct_law_apart), sl_law_apart⟩) (c_law_apart_ : PySem.W.codeIn K cd_law_apart "_law_apart" = true) (k_law_apart : PySem.W.keepIn K (.ref f_law_apart) = true)
    (a_law_members : PySem.W.nsIn K mainGlobals "_law_members" = some (some (.ref f_law_members)))
    (l_law_members : K.lookup f_law_members = some ⟨oc_law_members, od_law_members, .func (PySem.W.fnOf "_law_members" "_law_members" (defArgs s_law_members) (defBody s_law_members) (defScope s_law_members) .none kV_law_members dc_law_members pm_law_members an_law_members cd_law_members ct_law_members), sl_law_members⟩) (c_law_members_ : PySem.W.codeIn K cd_law_members "_law_members" = true) (k_law_members : PySem.W.keepIn K (.ref f_law_members) = true)
    (a_law_compared : PySem.W.nsIn K mainGlobals "_law_compared" = some (some (.ref f_law_compared)))
    (l_law_compared : K.lookup f_law_compared = some ⟨oc_law_compared, od_law_compared, .func (PySem.W.fnOf "_law_compared" "_law_compared" (defArgs s_law_compared) (defBody s_law_compared) (defScope s_law_compared) .none kV_law_compared dc_law_compared pm_law_compared an_law_compared cd_law_compared ct_law_compared), sl_law_compared⟩) (c_law_compared_ : PySem.W.codeIn K cd_law_compared "_law_compared" = true) (k_law_compared : PySem.W.keepIn K (.ref f_law_compared) = true)
    (a_law_joined : PySem.W.nsIn K mainGlobals "_law_joined" = some (some (.ref f_law_joined)))
    (l_law_joined : K.lookup f_law_joined = some ⟨oc_law_joined, od_law_joined, .func (PySem.W.fnOf "_law_joined" "_law_joined" (defArgs s_law_joined) (defBody s_law_joined) (defScope s_law_joined) .none kV_law_joined dc_law_joined pm_law_joined an_law_joined cd_law_joined ct_law_joined), sl_law_joined⟩) (c_law_joined_ : PySem.W.codeIn K cd_law_joined "_law_joined" = true) (k_law_joined : PySem.W.keepIn K (.ref f_law_joined) = true)
    (a_law_cut : PySem.W.nsIn K mainGlobals "_law_cut" = some (some (.ref f_law_cut)))
    (l_law_cut : K.lookup f_law_cut = some ⟨oc_law_cut, od_law_cut, .func (PySem.W.fnOf "_law_cut" "_law_cut" (defArgs s_law_cut) (defBody s_law_cut) (defScope s_law_cut) .none kV_law_cut dc_law_cut pm_law_cut an_law_cut cd_law_cut ct_law_cut), sl_law_cut⟩) (c_law_cut_ : PySem.W.codeIn K cd_law_cut "_law_cut" = true) (k_law_cut : PySem.W.keepIn K (.ref f_law_cut) = true)
    (a_law : PySem.W.nsIn K mainGlobals "law" = some (some (.ref f_law)))
    (l_law : K.lookup f_law = some ⟨oc_law, od_law, .func (PySem.W.fnOf "law" "law" (defArgs s_law) (defBody s_law) (defScope s_law) .none kV_law dc_law pm_law an_law cd_law ct_law), sl_law⟩) (c_law_ : PySem.W.codeIn K cd_law "law" = true) (k_law : PySem.W.keepIn K (.ref f_law) = true)
    (z_bool_ : PySem.W.nsIn K mainGlobals "bool" = some none)
    (z_int_ : PySem.W.nsIn K mainGlobals "int" = some none)
    (z_isinstance_ : PySem.W.nsIn K mainGlobals "isinstance" = some none)
    (z_iter_ : PySem.W.nsIn K mainGlobals "iter" = some none)
    (z_len_ : PySem.W.nsIn K mainGlobals "len" = some none)
    (z_list_ : PySem.W.nsIn K mainGlobals "list" = some none)
    (z_max_ : PySem.W.nsIn K mainGlobals "max" = some none)
    (z_min_ : PySem.W.nsIn K mainGlobals "min" = some none)
    (z_range_ : PySem.W.nsIn K mainGlobals "range" = some none)
    (z_sorted_ : PySem.W.nsIn K mainGlobals "sorted" = some none)
    (z_str_ : PySem.W.nsIn K mainGlobals "str" = some none)
    (z_tuple_ : PySem.W.nsIn K mainGlobals "tuple" = some none)
    : ∃ fd : FuncData, (∀ (s : Shared) (v : Value), BindsTo s fd ⟨[v], []⟩ [("script", v)]) ∧ ∀ base : Heap, K.In base → base.Ns mainGlobals mg → FnOk l.prog w K mg base CX0 7 fa fd ["script"] (spLaw K) := by
  have e := hfa.symm.trans (PySem.W.mg_of X G a_law)
  cases e
  have T : Bi mg := ⟨PySem.W.mg_none_of X G z_bool_, PySem.W.mg_none_of X G z_int_, PySem.W.mg_none_of X G z_isinstance_, PySem.W.mg_none_of X G z_iter_, PySem.W.mg_none_of X G z_len_, PySem.W.mg_none_of X G z_list_, PySem.W.mg_none_of X G z_max_, PySem.W.mg_none_of X G z_min_, PySem.W.mg_none_of X G z_range_, PySem.W.mg_none_of X G z_sorted_, PySem.W.mg_none_of X G z_str_, PySem.W.mg_none_of X G z_tuple_⟩
  have K_Book : KBook K C_Book := ⟨⟨pg_Book, hd_Book, po_Book, sa_Book⟩, n_Book__rows⟩
  have mg_Book := PySem.W.mg_of X G aC_Book
  have isi_Book : IsiF K C_Book := ⟨⟨K_Book.cl, ia_Book, ib_Book, ic_Book, id_Book⟩, kitOne_self, kitOne_type ie_Book if_Book ik_Book_0, kitOne_type ie_Book if_Book ik_Book_1, kitOne_type ie_Book if_Book ik_Book_2, kitOne_type ie_Book if_Book ik_Book_3, kitOne_type ie_Book if_Book ik_Book_4, kitOne_type ie_Book if_Book ik_Book_5, kitOne_type ie_Book if_Book ik_Book_6⟩
  have ns_Book : NoSub K C_Book := ⟨ns_Book_0, ns_Book_1, ns_Book_2, ns_Book_3, ns_Book_4, ns_Book_5⟩
  have E0_Book___init_0 : EmpT K de_Book___init_0 := ⟨_, _, e0_Book___init_0, rfl, rfl⟩
  have F_in_order := fun_mk (st := s_in_order) l_in_order c_in_order_ k_in_order
  have b_in_order := F_in_order.binds (ps := ["entries"]) fun _ _ _ _ _ _ us hl => match us, hl with | [_], _ => rfl
  have F_Book___init : FunD K "__init__" "Book.__init__" (defArgs s_Book___init) (defBody s_Book___init) (defScope s_Book___init) [.ref de_Book___init_0] [] f_Book___init _ := ⟨⟨_, _, _, _, _, _, _, _, _, _, rfl, l_Book___init, c_Book___init_, .inr ⟨by simp, t_Book___init, _, [(.ref de_Book___init_0)], _, rfl, t_Book___init_l, rfl, (.cons rfl .nil)⟩, .inl rfl⟩, k_Book___init⟩
  obtain ⟨ds_Book___init_1, v_Book___init_1, b_Book___init_1⟩ := FunD.binds1 (ps := ["self", "entries"]) F_Book___init 1 0 (by simp) rfl fun T kV doc pm an cdv ct us its h1 h2 => match us, h1, its, h2 with | [_], _, [_], _ => ⟨_, rfl, rfl⟩
  obtain ⟨ds_Book___init_2, v_Book___init_2, b_Book___init_2⟩ := FunD.binds1 (ps := ["self", "entries"]) F_Book___init 2 1 (by simp) rfl fun T kV doc pm an cdv ct us its h1 h2 => match us, h1, its, h2 with | [_, _], _, [_], _ => ⟨_, rfl, rfl⟩
  have F_Book_tell := fun_mk (st := s_Book_tell) l_Book_tell c_Book_tell_ k_Book_tell
  have b_Book_tell := F_Book_tell.binds (ps := ["self", "entry"]) fun _ _ _ _ _ _ us hl => match us, hl with | [_, _], _ => rfl
  have F_Book_until := fun_mk (st := s_Book_until) l_Book_until c_Book_until_ k_Book_until
  have b_Book_until := F_Book_until.binds (ps := ["self", "day"]) fun _ _ _ _ _ _ us hl => match us, hl with | [_, _], _ => rfl
  have F_Book___eq := fun_mk (st := s_Book___eq) l_Book___eq c_Book___eq_ k_Book___eq
  have b_Book___eq := F_Book___eq.binds (ps := ["self", "other"]) fun _ _ _ _ _ _ us hl => match us, hl with | [_, _], _ => rfl
  have F_Book___ne := fun_mk (st := s_Book___ne) l_Book___ne c_Book___ne_ k_Book___ne
  have b_Book___ne := F_Book___ne.binds (ps := ["self", "other"]) fun _ _ _ _ _ _ us hl => match us, hl with | [_, _], _ => rfl
  have F_Book___or := fun_mk (st := s_Book___or) l_Book___or c_Book___or_ k_Book___or
  have b_Book___or := F_Book___or.binds (ps := ["self", "other"]) fun _ _ _ _ _ _ us hl => match us, hl with | [_, _], _ => rfl
  have F_Book___contains := fun_mk (st := s_Book___contains) l_Book___contains c_Book___contains_ k_Book___contains
  have b_Book___contains := F_Book___contains.binds (ps := ["self", "entry"]) fun _ _ _ _ _ _ us hl => match us, hl with | [_, _], _ => rfl
  have F_Book___len := fun_mk (st := s_Book___len) l_Book___len c_Book___len_ k_Book___len
  have b_Book___len := F_Book___len.binds (ps := ["self"]) fun _ _ _ _ _ _ us hl => match us, hl with | [_], _ => rfl
  have F_Book___iter := fun_mk (st := s_Book___iter) l_Book___iter c_Book___iter_ k_Book___iter
  have b_Book___iter := F_Book___iter.binds (ps := ["self"]) fun _ _ _ _ _ _ us hl => match us, hl with | [_], _ => rfl
  have F_law_bag := fun_mk (st := sBag) l_law_bag c_law_bag_ k_law_bag
  have b_law_bag := F_law_bag.binds (ps := ["script"]) fun _ _ _ _ _ _ us hl => match us, hl with | [_], _ => rfl
  have F_law_draw := fun_mk (st := sDraw) l_law_draw c_law_draw_ k_law_draw
  have b_law_draw := F_law_draw.binds (ps := ["bag", "size"]) fun _ _ _ _ _ _ us hl => match us, hl with | [_, _], _ => rfl
  have F_law_name := fun_mk (st := s_law_name) l_law_name c_law_name_ k_law_name
  have b_law_name := F_law_name.binds (ps := ["bag", "taken"]) fun _ _ _ _ _ _ us hl => match us, hl with | [_, _], _ => rfl
  have F_law_names := fun_mk (st := s_law_names) l_law_names c_law_names_ k_law_names
  have b_law_names := F_law_names.binds (ps := ["bag", "count"]) fun _ _ _ _ _ _ us hl => match us, hl with | [_, _], _ => rfl
  have F_law_entry := fun_mk (st := s_law_entry) l_law_entry c_law_entry_ k_law_entry
  have b_law_entry := F_law_entry.binds (ps := ["bag", "ids", "years", "students", "attrs", "purposes", "funds", "top"]) fun _ _ _ _ _ _ us hl => match us, hl with | [_, _, _, _, _, _, _, _], _ => rfl
  have F_law_drawn := fun_mk (st := s_law_drawn) l_law_drawn c_law_drawn_ k_law_drawn
  have b_law_drawn := F_law_drawn.binds (ps := ["bag", "count", "ids", "years", "words", "top"]) fun _ _ _ _ _ _ us hl => match us, hl with | [_, _, _, _, _, _], _ => rfl
  have F_law_mixed := fun_mk (st := s_law_mixed) l_law_mixed c_law_mixed_ k_law_mixed
  have b_law_mixed := F_law_mixed.binds (ps := ["bag", "rows"]) fun _ _ _ _ _ _ us hl => match us, hl with | [_, _], _ => rfl
  have F_law_fresh := fun_mk (st := s_law_fresh) l_law_fresh c_law_fresh_ k_law_fresh
  have b_law_fresh := F_law_fresh.binds (ps := ["rows"]) fun _ _ _ _ _ _ us hl => match us, hl with | [_], _ => rfl
  have F_law_order := fun_mk (st := s_law_order) l_law_order c_law_order_ k_law_order
  have b_law_order := F_law_order.binds (ps := ["rows"]) fun _ _ _ _ _ _ us hl => match us, hl with | [_], _ => rfl
  have F_law_changed := fun_mk (st := s_law_changed) l_law_changed c_law_changed_ k_law_changed
  have b_law_changed := F_law_changed.binds (ps := ["entry", "at"]) fun _ _ _ _ _ _ us hl => match us, hl with | [_, _], _ => rfl
  have F_law_near := fun_mk (st := s_law_near) l_law_near c_law_near_ k_law_near
  have b_law_near := F_law_near.binds (ps := ["entry"]) fun _ _ _ _ _ _ us hl => match us, hl with | [_], _ => rfl
  have F_law_same := fun_mk (st := s_law_same) l_law_same c_law_same_ k_law_same
  have b_law_same := F_law_same.binds (ps := ["told", "due"]) fun _ _ _ _ _ _ us hl => match us, hl with | [_, _], _ => rfl
  have F_law_has_just := fun_mk (st := s_law_has_just) l_law_has_just c_law_has_just_ k_law_has_just
  have b_law_has_just := F_law_has_just.binds (ps := ["book", "due"]) fun _ _ _ _ _ _ us hl => match us, hl with | [_, _], _ => rfl
  have F_law_alike := fun_mk (st := s_law_alike) l_law_alike c_law_alike_ k_law_alike
  have b_law_alike := F_law_alike.binds (ps := ["first", "second"]) fun _ _ _ _ _ _ us hl => match us, hl with | [_, _], _ => rfl
  have F_law_apart := fun_mk (st := s_law_apart) l_law_apart c_law_apart_ k_law_apart
  have b_law_apart := F_law_apart.binds (ps := ["first", "second"]) fun _ _ _ _ _ _ us hl => match us, hl with | [_, _], _ => rfl
  have F_law_members := fun_mk (st := s_law_members) l_law_members c_law_members_ k_law_members
  have b_law_members := F_law_members.binds (ps := ["bag", "book", "due"]) fun _ _ _ _ _ _ us hl => match us, hl with | [_, _, _], _ => rfl
  have F_law_compared := fun_mk (st := s_law_compared) l_law_compared c_law_compared_ k_law_compared
  have b_law_compared := F_law_compared.binds (ps := ["bag", "book", "due"]) fun _ _ _ _ _ _ us hl => match us, hl with | [_, _, _], _ => rfl
  have F_law_joined := fun_mk (st := s_law_joined) l_law_joined c_law_joined_ k_law_joined
  have b_law_joined := F_law_joined.binds (ps := ["book", "due", "other", "due_other"]) fun _ _ _ _ _ _ us hl => match us, hl with | [_, _, _, _], _ => rfl
  have F_law_cut := fun_mk (st := s_law_cut) l_law_cut c_law_cut_ k_law_cut
  have b_law_cut := F_law_cut.binds (ps := ["bag", "book", "due"]) fun _ _ _ _ _ _ us hl => match us, hl with | [_, _, _], _ => rfl
  have F_law := fun_mk (st := s_law) l_law c_law_ k_law
  have b_law := F_law.binds (ps := ["script"]) fun _ _ _ _ _ _ us hl => match us, hl with | [_], _ => rfl
  refine ⟨PySem.W.fnOf "law" "law" (defArgs s_law) (defBody s_law) (defScope s_law) .none kV_law dc_law pm_law an_law cd_law ct_law, fun s v => .of_eq rfl, fun base kin ns => ?_⟩
  have c_Book___contains : CalM l.prog w K mg base C_Book "__contains__" 1 ["self", "entry"] (.own 0) [] (w_Book___contains C_Book) := ⟨K_Book.cl, ⟨_, _, [], [], (ok_Book___contains F_Book___contains T K_Book), ⟨a_Book___contains, i_Book___contains, k_Book___contains⟩, b_Book___contains, .nil, fun _ => .nil⟩⟩
  have c_in_order : Cal l.prog w K mg base "in_order" 1 ["entries"] (.own 1) [] (w_in_order de_Book___init_0) := ⟨⟨_, _, [], [], (ok_in_order F_in_order T E0_Book___init_0), PySem.W.mg_of X G a_in_order, k_in_order, b_in_order, .nil, fun _ => .nil⟩⟩
  have c_Book_0 : CalK l.prog w K mg base "Book" C_Book 2 1 ["self", "entries"] (.own 0) [.raw (.ref de_Book___init_0)] (w_Book_init C_Book de_Book___init_0) := ⟨⟨_, _, _, _, (ok_Book___init F_Book___init T K_Book c_in_order), ⟨mk_Book, a_Book___init, i_Book___init, kc_Book⟩, PySem.W.mg_of X G aC_Book, b_Book___init_1, v_Book___init_1, fun _ => (.cons (.raw (.ref de_Book___init_0)) .nil)⟩⟩
  have c_Book : CalK l.prog w K mg base "Book" C_Book 2 1 ["self", "entries"] (.own 0) [] (w_Book_init C_Book de_Book___init_0) := ⟨⟨_, _, _, _, (ok_Book___init F_Book___init T K_Book c_in_order), ⟨mk_Book, a_Book___init, i_Book___init, kc_Book⟩, PySem.W.mg_of X G aC_Book, b_Book___init_2, v_Book___init_2, fun _ => .nil⟩⟩
  have c_Book___or : CalM l.prog w K mg base C_Book "__or__" 4 ["self", "other"] (.own 2) [] (w_Book___or C_Book de_Book___init_0) := ⟨K_Book.cl, ⟨_, _, [], [], (ok_Book___or F_Book___or T K_Book c_Book), ⟨a_Book___or, i_Book___or, k_Book___or⟩, b_Book___or, .nil, fun _ => .nil⟩⟩
  have c_Book_tell : CalMM l.prog w K mg base C_Book "tell" 2 1 ["self", "entry"] (.own 0) [] (w_Book_tell C_Book) := ⟨K_Book.cl, ⟨_, _, [], [], (ok_Book_tell F_Book_tell T K_Book c_in_order), ⟨a_Book_tell, i_Book_tell, k_Book_tell⟩, b_Book_tell, .nil, fun _ => .nil⟩⟩
  have c_Book_until : CalM l.prog w K mg base C_Book "until" 4 ["self", "day"] (.own 2) [] (w_Book_until C_Book de_Book___init_0) := ⟨K_Book.cl, ⟨_, _, [], [], (ok_Book_until F_Book_until T K_Book c_Book), ⟨a_Book_until, i_Book_until, k_Book_until⟩, b_Book_until, .nil, fun _ => .nil⟩⟩
  have c_Book___eq : CalM l.prog w K mg base C_Book "__eq__" 1 ["self", "other"] (.own 0) [] (w_Book___eq C_Book) := ⟨K_Book.cl, ⟨_, _, [], [], (ok_Book___eq F_Book___eq T K_Book mg_Book isi_Book), ⟨a_Book___eq, i_Book___eq, k_Book___eq⟩, b_Book___eq, .nil, fun _ => .nil⟩⟩
  have c_Book___ne : CalM l.prog w K mg base C_Book "__ne__" 2 ["self", "other"] (.own 0) [] (w_Book___ne C_Book) := ⟨K_Book.cl, ⟨_, _, [], [], (ok_Book___ne F_Book___ne T ns_Book c_Book___eq), ⟨a_Book___ne, i_Book___ne, k_Book___ne⟩, b_Book___ne, .nil, fun _ => .nil⟩⟩
  have c_law_alike : Cal l.prog w K mg base "_law_alike" 3 ["first", "second"] (.own 0) [] (w_law_alike C_Book) := ⟨⟨_, _, [], [], (ok_law_alike F_law_alike T c_Book___eq c_Book___ne), PySem.W.mg_of X G a_law_alike, k_law_alike, b_law_alike, .nil, fun _ => .nil⟩⟩
  have c_law_apart : Cal l.prog w K mg base "_law_apart" 3 ["first", "second"] (.own 0) [] (w_law_apart C_Book) := ⟨⟨_, _, [], [], (ok_law_apart F_law_apart T ns_Book c_Book___eq c_Book___ne), PySem.W.mg_of X G a_law_apart, k_law_apart, b_law_apart, .nil, fun _ => .nil⟩⟩
  have c_law_draw : Cal l.prog w K mg base "_law_draw" 1 ["bag", "size"] (.own 0) [] wDraw := ⟨⟨_, _, [], [], (ok_draw F_law_draw T.int_ T.len_), PySem.W.mg_of X G a_law_draw, k_law_draw, b_law_draw, .nil, fun _ => .nil⟩⟩
  have c_law_fresh : Cal l.prog w K mg base "_law_fresh" 1 ["rows"] (.own 0) [] w_law_fresh := ⟨⟨_, _, [], [], (ok_law_fresh F_law_fresh T ), PySem.W.mg_of X G a_law_fresh, k_law_fresh, b_law_fresh, .nil, fun _ => .nil⟩⟩
  have it_Book : CalIL l.prog w K mg base C_Book 1 "_rows" := ⟨⟨_, _, ok_Book___iter F_Book___iter T K_Book, ⟨a_Book___iter, i_Book___iter, k_Book___iter⟩, b_Book___iter⟩⟩
  have c_Book___len : CalM l.prog w K mg base C_Book "__len__" 1 ["self"] (.own 0) [] (w_Book___len C_Book) := ⟨K_Book.cl, ⟨_, _, [], [], (ok_Book___len F_Book___len T K_Book), ⟨a_Book___len, i_Book___len, k_Book___len⟩, b_Book___len, .nil, fun _ => .nil⟩⟩
  have c_law_same : Cal l.prog w K mg base "_law_same" 1 ["told", "due"] (.own 0) [] w_law_same := ⟨⟨_, _, [], [], (ok_law_same F_law_same T ), PySem.W.mg_of X G a_law_same, k_law_same, b_law_same, .nil, fun _ => .nil⟩⟩
  have c_law_has_just : Cal l.prog w K mg base "_law_has_just" 5 ["book", "due"] (.own 0) [] (w_law_has_just C_Book) := ⟨⟨_, _, [], [], (ok_law_has_just F_law_has_just T mg_Book isi_Book it_Book c_Book___len c_law_same), PySem.W.mg_of X G a_law_has_just, k_law_has_just, b_law_has_just, .nil, fun _ => .nil⟩⟩
  have c_law_mixed : Cal l.prog w K mg base "_law_mixed" 2 ["bag", "rows"] (.own 0) [] w_law_mixed := ⟨⟨_, _, [], [], (ok_law_mixed F_law_mixed T c_law_draw), PySem.W.mg_of X G a_law_mixed, k_law_mixed, b_law_mixed, .nil, fun _ => .nil⟩⟩
  have c_law_changed : Cal l.prog w K mg base "_law_changed" 1 ["entry", "at"] (.own 0) [] w_law_changed := ⟨⟨_, _, [], [], (ok_law_changed F_law_changed T ), PySem.W.mg_of X G a_law_changed, k_law_changed, b_law_changed, .nil, fun _ => .nil⟩⟩
  have c_law_near : Cal l.prog w K mg base "_law_near" 2 ["entry"] (.own 0) [] w_law_near := ⟨⟨_, _, [], [], (ok_law_near F_law_near T c_law_changed), PySem.W.mg_of X G a_law_near, k_law_near, b_law_near, .nil, fun _ => .nil⟩⟩
  have c_law_order : Cal l.prog w K mg base "_law_order" 1 ["rows"] (.own 0) [] w_law_order := ⟨⟨_, _, [], [], (ok_law_order F_law_order T ), PySem.W.mg_of X G a_law_order, k_law_order, b_law_order, .nil, fun _ => .nil⟩⟩
  have c_law_compared : Cal l.prog w K mg base "_law_compared" 6 ["bag", "book", "due"] (.own 0) [] (w_law_compared C_Book de_Book___init_0) := ⟨⟨_, _, [], [], (ok_law_compared F_law_compared T c_Book c_Book_tell c_law_alike c_law_apart c_law_draw c_law_fresh c_law_has_just c_law_mixed c_law_near c_law_order), PySem.W.mg_of X G a_law_compared, k_law_compared, b_law_compared, .nil, fun _ => .nil⟩⟩
  have c_law_cut : Cal l.prog w K mg base "_law_cut" 6 ["bag", "book", "due"] (.own 0) [] (w_law_cut C_Book de_Book___init_0) := ⟨⟨_, _, [], [], (ok_law_cut F_law_cut T c_Book_tell c_Book_until c_law_draw c_law_fresh c_law_has_just c_law_order), PySem.W.mg_of X G a_law_cut, k_law_cut, b_law_cut, .nil, fun _ => .nil⟩⟩
  have c_law_entry : Cal l.prog w K mg base "_law_entry" 2 ["bag", "ids", "years", "students", "attrs", "purposes", "funds", "top"] (.own 0) [] w_law_entry := ⟨⟨_, _, [], [], (ok_law_entry F_law_entry T c_law_draw), PySem.W.mg_of X G a_law_entry, k_law_entry, b_law_entry, .nil, fun _ => .nil⟩⟩
  have c_law_drawn : Cal l.prog w K mg base "_law_drawn" 3 ["bag", "count", "ids", "years", "words", "top"] (.own 0) [] w_law_drawn := ⟨⟨_, _, [], [], (ok_law_drawn F_law_drawn T c_law_entry), PySem.W.mg_of X G a_law_drawn, k_law_drawn, b_law_drawn, .nil, fun _ => .nil⟩⟩
  have c_law_joined : Cal l.prog w K mg base "_law_joined" 6 ["book", "due", "other", "due_other"] (.own 0) [] (w_law_joined C_Book de_Book___init_0) := ⟨⟨_, _, [], [], (ok_law_joined F_law_joined T sf_Book c_Book_0 c_Book___or c_Book_tell c_law_alike c_law_fresh c_law_has_just c_law_order), PySem.W.mg_of X G a_law_joined, k_law_joined, b_law_joined, .nil, fun _ => .nil⟩⟩
  have c_law_members : Cal l.prog w K mg base "_law_members" 3 ["bag", "book", "due"] (.own 0) [] (w_law_members C_Book) := ⟨⟨_, _, [], [], (ok_law_members F_law_members T c_Book___contains c_law_draw c_law_near), PySem.W.mg_of X G a_law_members, k_law_members, b_law_members, .nil, fun _ => .nil⟩⟩
  have c_law_name : Cal l.prog w K mg base "_law_name" 2 ["bag", "taken"] (.own 0) [] w_law_name := ⟨⟨_, _, [], [], (ok_law_name F_law_name T c_law_draw), PySem.W.mg_of X G a_law_name, k_law_name, b_law_name, .nil, fun _ => .nil⟩⟩
  have c_law_names : Cal l.prog w K mg base "_law_names" 3 ["bag", "count"] (.own 0) [] w_law_names := ⟨⟨_, _, [], [], (ok_law_names F_law_names T c_law_name), PySem.W.mg_of X G a_law_names, k_law_names, b_law_names, .nil, fun _ => .nil⟩⟩
  exact ok_law F_law T (ok_bag F_law_bag T.int_ T.len_ T.list_) (PySem.W.mg_of X G a_law_bag) k_law_bag b_law_bag sf_Book c_Book___contains c_Book_0 c_Book c_Book___or c_Book_tell c_Book_until c_law_compared c_law_cut c_law_draw c_law_drawn c_law_fresh c_law_has_just c_law_joined c_law_members c_law_mixed c_law_names c_law_order
end GK
namespace GK
open PySem PySem.Spec PyProof.Rows L2
theorem walk {l : PySem.W.OpenLaw} {q : Program} {loose : List Str} {XP : (Str → Option Value) → Heap → Prop} {YP : World → Heap → Prop} {d : DefRec} {K : Params → PySem.W.Frag} (hn : l.most = some 63) (hdf : d.params.defaults = [])
    (hY : ∀ (w : World) (h : Heap), YP w h → (K w.params).In h)
    (F : ∀ (w : World) (mg : Str → Option Value) (fa : Addr) (h : Heap), (K w.params).In h → h.Ns mainGlobals mg → mg d.name = some (.ref fa) →
      ∃ fd : FuncData, (∀ (s : Shared) (u : Value), BindsTo s fd ⟨[u], []⟩ [("script", u)]) ∧ ∀ base : Heap, (K w.params).In base → base.Ns mainGlobals mg → FnOk l.prog w (K w.params) mg base CX0 7 fa fd ["script"] (spLaw (K w.params))) :
    PySem.W.WalkO q loose XP YP l.row.toRowW d [] (fun f vs => PySem.call f vs) :=
  L2.walk_of (n := 63) (k := 7) (x := "script") (CX := fun _ => CX0) (sp := fun w => spLaw (K w.params)) hn (by decide) hdf ⟨rfl, by decide, by decide⟩ hY F (fun _ H a ns hl hO hS => ⟨a, ns, rfl, hS, hl, hO, fun _ => rfl⟩) fun _ _ _ _ _ z => z
end GK
open PySem PySem.W PyProof.Rows in
set_option maxRecDepth 100000 in
set_option maxHeartbeats 0 in
theorem PySem.Challenge.cw_giftskept_k12_book_as_a_set_holds : PySem.Challenge.rw_giftskept_k12_book_as_a_set.Holds := by
  w_on; o_law; k_head; (case hw => w_witness2)
  k_fill
  refine GK.walk (l := PySem.Challenge.rw_giftskept_k12_book_as_a_set) rfl rfl (fun w h Y => PySem.W.kIn_of Y) ?F
  case F =>
    intro w mg fa h KX G hmg
    refine' GK.all_mk KX G hmg ?aC_Book ?pg_Book ?hd_Book ?po_Book ?sa_Book ?mk_Book ?kc_Book ?n_Book__rows ?sf_Book ?ns_Book_0 ?ns_Book_1 ?ns_Book_2 ?ns_Book_3 ?ns_Book_4 ?ns_Book_5 ?ia_Book ?ib_Book ?ic_Book ?id_Book ?ie_Book ?if_Book ?ik_Book_0 ?ik_Book_1 ?ik_Book_2 ?ik_Book_3 ?ik_Book_4 ?ik_Book_5 ?ik_Book_6 ?a_in_order ?l_in_order ?c_in_order_ ?k_in_order ?a_Book___init ?i_Book___init ?l_Book___init ?c_Book___init_ ?k_Book___init ?t_Book___init_l ?e0_Book___init_0 ?a_Book_tell ?i_Book_tell ?l_Book_tell ?c_Book_tell_ ?k_Book_tell ?a_Book_until ?i_Book_until ?l_Book_until ?c_Book_until_ ?k_Book_until ?a_Book___eq ?i_Book___eq ?l_Book___eq ?c_Book___eq_ ?k_Book___eq ?a_Book___ne ?i_Book___ne ?l_Book___ne ?c_Book___ne_ ?k_Book___ne ?a_Book___or ?i_Book___or ?l_Book___or ?c_Book___or_ ?k_Book___or ?a_Book___contains ?i_Book___contains ?l_Book___contains ?c_Book___contains_ ?k_Book___contains ?a_Book___len ?i_Book___len ?l_Book___len ?c_Book___len_ ?k_Book___len ?a_Book___iter ?i_Book___iter ?l_Book___iter ?c_Book___iter_ ?k_Book___iter ?a_law_bag ?l_law_bag ?c_law_bag_ ?k_law_bag ?a_law_draw ?l_law_draw ?c_law_draw_ ?k_law_draw ?a_law_name ?l_law_name ?c_law_name_ ?k_law_name ?a_law_names ?l_law_names ?c_law_names_ ?k_law_names ?a_law_entry ?l_law_entry ?c_law_entry_ ?k_law_entry ?a_law_drawn ?l_law_drawn ?c_law_drawn_ ?k_law_drawn ?a_law_mixed ?l_law_mixed ?c_law_mixed_ ?k_law_mixed ?a_law_fresh ?l_law_fresh ?c_law_fresh_ ?k_law_fresh ?a_law_order ?l_law_order ?c_law_order_ ?k_law_order ?a_law_changed ?l_law_changed ?c_law_changed_ ?k_law_changed ?a_law_near ?l_law_near ?c_law_near_ ?k_law_near ?a_law_same ?l_law_same ?c_law_same_ ?k_law_same ?a_law_has_just ?l_law_has_just ?c_law_has_just_ ?k_law_has_just ?a_law_alike ?l_law_alike ?c_law_alike_ ?k_law_alike ?a_law_apart ?l_law_apart ?c_law_apart_ ?k_law_apart ?a_law_members ?l_law_members ?c_law_members_ ?k_law_members ?a_law_compared ?l_law_compared ?c_law_compared_ ?k_law_compared ?a_law_joined ?l_law_joined ?c_law_joined_ ?k_law_joined ?a_law_cut ?l_law_cut ?c_law_cut_ ?k_law_cut ?a_law ?l_law ?c_law_ ?k_law ?z_bool_ ?z_int_ ?z_isinstance_ ?z_iter_ ?z_len_ ?z_list_ ?z_max_ ?z_min_ ?z_range_ ?z_sorted_ ?z_str_ ?z_tuple_
    (case aC_Book => k_is)
    (case pg_Book => k_is)
    (case hd_Book => k_is)
    (case po_Book => k_is)
    (case sa_Book => k_is)
    (case mk_Book => k_is)
    (case kc_Book => k_is)
    (case n_Book__rows => k_is)
    (case sf_Book => k_is)
    (case ns_Book_0 => k_is)
    (case ns_Book_1 => k_is)
    (case ns_Book_2 => k_is)
    (case ns_Book_3 => k_is)
    (case ns_Book_4 => k_is)
    (case ns_Book_5 => k_is)
    (case ia_Book => k_is)
    (case ib_Book => k_is)
    (case ic_Book => k_is)
    (case id_Book => k_is)
    (case ie_Book => k_is)
    (case if_Book => k_is)
    (case ik_Book_0 => k_is)
    (case ik_Book_1 => k_is)
    (case ik_Book_2 => k_is)
    (case ik_Book_3 => k_is)
    (case ik_Book_4 => k_is)
    (case ik_Book_5 => k_is)
    (case ik_Book_6 => k_is)
    (case a_in_order => k_is)
    (case l_in_order => k_is)
    (case c_in_order_ => k_is)
    (case k_in_order => k_is)
    (case a_Book___init => k_is)
    (case i_Book___init => k_is)
    (case l_Book___init => k_is)
    (case c_Book___init_ => k_is)
    (case k_Book___init => k_is)
    (case t_Book___init_l => k_is)
    (case e0_Book___init_0 => k_is)
    (case a_Book_tell => k_is)
    (case i_Book_tell => k_is)
    (case l_Book_tell => k_is)
    (case c_Book_tell_ => k_is)
    (case k_Book_tell => k_is)
    (case a_Book_until => k_is)
    (case i_Book_until => k_is)
    (case l_Book_until => k_is)
    (case c_Book_until_ => k_is)
    (case k_Book_until => k_is)
    (case a_Book___eq => k_is)
    (case i_Book___eq => k_is)
    (case l_Book___eq => k_is)
    (case c_Book___eq_ => k_is)
    (case k_Book___eq => k_is)
    (case a_Book___ne => k_is)
    (case i_Book___ne => k_is)
    (case l_Book___ne => k_is)
    (case c_Book___ne_ => k_is)
    (case k_Book___ne => k_is)
    (case a_Book___or => k_is)
    (case i_Book___or => k_is)
    (case l_Book___or => k_is)
    (case c_Book___or_ => k_is)
    (case k_Book___or => k_is)
    (case a_Book___contains => k_is)
    (case i_Book___contains => k_is)
    (case l_Book___contains => k_is)
    (case c_Book___contains_ => k_is)
    (case k_Book___contains => k_is)
    (case a_Book___len => k_is)
    (case i_Book___len => k_is)
    (case l_Book___len => k_is)
    (case c_Book___len_ => k_is)
    (case k_Book___len => k_is)
    (case a_Book___iter => k_is)
    (case i_Book___iter => k_is)
    (case l_Book___iter => k_is)
    (case c_Book___iter_ => k_is)
    (case k_Book___iter => k_is)
    (case a_law_bag => k_is)
    (case l_law_bag => k_is)
    (case c_law_bag_ => k_is)
    (case k_law_bag => k_is)
    (case a_law_draw => k_is)
    (case l_law_draw => k_is)
    (case c_law_draw_ => k_is)
    (case k_law_draw => k_is)
    (case a_law_name => k_is)
    (case l_law_name => k_is)
    (case c_law_name_ => k_is)
    (case k_law_name => k_is)
    (case a_law_names => k_is)
    (case l_law_names => k_is)
    (case c_law_names_ => k_is)
    (case k_law_names => k_is)
    (case a_law_entry => k_is)
    (case l_law_entry => k_is)
    (case c_law_entry_ => k_is)
    (case k_law_entry => k_is)
    (case a_law_drawn => k_is)
    (case l_law_drawn => k_is)
    (case c_law_drawn_ => k_is)
    (case k_law_drawn => k_is)
    (case a_law_mixed => k_is)
    (case l_law_mixed => k_is)
    (case c_law_mixed_ => k_is)
    (case k_law_mixed => k_is)
    (case a_law_fresh => k_is)
    (case l_law_fresh => k_is)
    (case c_law_fresh_ => k_is)
    (case k_law_fresh => k_is)
    (case a_law_order => k_is)
    (case l_law_order => k_is)
    (case c_law_order_ => k_is)
    (case k_law_order => k_is)
    (case a_law_changed => k_is)
    (case l_law_changed => k_is)
    (case c_law_changed_ => k_is)
    (case k_law_changed => k_is)
    (case a_law_near => k_is)
    (case l_law_near => k_is)
    (case c_law_near_ => k_is)
    (case k_law_near => k_is)
    (case a_law_same => k_is)
    (case l_law_same => k_is)
    (case c_law_same_ => k_is)
    (case k_law_same => k_is)
    (case a_law_has_just => k_is)
    (case l_law_has_just => k_is)
    (case c_law_has_just_ => k_is)
    (case k_law_has_just => k_is)
    (case a_law_alike => k_is)
    (case l_law_alike => k_is)
    (case c_law_alike_ => k_is)
    (case k_law_alike => k_is)
    (case a_law_apart => k_is)
    (case l_law_apart => k_is)
    (case c_law_apart_ => k_is)
    (case k_law_apart => k_is)
    (case a_law_members => k_is)
    (case l_law_members => k_is)
    (case c_law_members_ => k_is)
    (case k_law_members => k_is)
    (case a_law_compared => k_is)
    (case l_law_compared => k_is)
    (case c_law_compared_ => k_is)
    (case k_law_compared => k_is)
    (case a_law_joined => k_is)
    (case l_law_joined => k_is)
    (case c_law_joined_ => k_is)
    (case k_law_joined => k_is)
    (case a_law_cut => k_is)
    (case l_law_cut => k_is)
    (case c_law_cut_ => k_is)
    (case k_law_cut => k_is)
    (case a_law => k_is)
    (case l_law => k_is)
    (case c_law_ => k_is)
    (case k_law => k_is)
    (case z_bool_ => k_is)
    (case z_int_ => k_is)
    (case z_isinstance_ => k_is)
    (case z_iter_ => k_is)
    (case z_len_ => k_is)
    (case z_list_ => k_is)
    (case z_max_ => k_is)
    (case z_min_ => k_is)
    (case z_range_ => k_is)
    (case z_sorted_ => k_is)
    (case z_str_ => k_is)
    (case z_tuple_ => k_is)
#print axioms PySem.Challenge.cw_giftskept_k12_book_as_a_set_holds

