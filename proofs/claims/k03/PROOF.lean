import PyProof.Rows.All
import Wide.All
import OpenK.AllK
import Wide.FinOn
import HandS.ForMost
import HandS.Exc
import HandS.TryOnly
import HandS.ExcOwn
import HandS.WordsExc
import HandS.Wide
import HandS.EndBits
import HandS.IsInst
import HandS.Dict
import HandS.Deep
import HandS.DictComp
import HandS.Style
import HandS.WideBits
import HandS.TupAny
import HandS.Small
import KE.KDictDisplayH
import PyProof.LongRange
import PySem.Challenge.RW_runroots_k03_relations_that_hold
set_option Elab.async false
set_option linter.all false
set_option maxRecDepth 100000
set_option maxHeartbeats 4000000
namespace Mp
open PySem PySem.Spec PyProof.Rows L2

/-! ### deep values -/
inductive D where
  | non | bl (b : Bool) | int (i : Int) | str (x : Str)
  | tup (ds : List D) | lst (ds : List D)
  | dk (ks : List Key) (ds : List D) | dt (ks : List (List Key)) (ds : List D)
  | obj (c : Str) (ns : List Str) (ds : List D)
  | sq (is : List Int)
  | wt (ds : List D)
  | exc (a : Addr)
  | cel (p : Addr) (is : List Int)

/-- the script: a list of ints that is read -/
def ScrAt (K : PySem.W.Frag) (F : Hp) (a : Addr) (vs : List V) : Prop := F a = some (.lst vs) ∨ SqL K (fun _ => none) a vs
def TupAt (_ : PySem.W.Frag) (F : Hp) (a : Addr) (vs : List V) : Prop := F a = some (.tup vs)
/-- a tuple of the written part -/
def WtAt (K : PySem.W.Frag) (a : Addr) (vs : List V) : Prop := SqT K (fun _ => none) a vs
def LstAt (_ : PySem.W.Frag) (F : Hp) (a : Addr) (vs : List V) : Prop := F a = some (.lst vs)

mutual
def Rep (K : PySem.W.Frag) (mg : Str → Option Value) (F : Hp) : D → V → Prop
  | .non, v => v = .non
  | .bl b, v => v = .bl b
  | .int i, v => v = .int i
  | .str x, v => v = .str x
  | .tup ds, v => ∃ a vs, v = .ref a ∧ TupAt K F a vs ∧ Reps K mg F ds vs
  | .lst ds, v => ∃ a vs, v = .ref a ∧ LstAt K F a vs ∧ Reps K mg F ds vs
  | .dk ks ds, v => ∃ a ws, v = .ref a ∧ F a = some (.dK ws) ∧ ws.map (·.1) = ks ∧ Reps K mg F ds (ws.map (·.2))
  | .dt ks ds, v => ∃ a ws, v = .ref a ∧ F a = some (.dT ws) ∧ ws.map (·.1) = ks ∧ Reps K mg F ds (ws.map (·.2))
  | .obj c ns ds, v => ∃ a C dx fs, v = .ref a ∧ mg c = some (.ref C) ∧ F a = some (.ins C dx fs) ∧ fs.map (·.1) = ns ∧ Reps K mg F ds (fs.map (·.2))
  | .sq is, v => ∃ a, v = .ref a ∧ ScrAt K F a (is.map V.int)
  | .wt ds, v => ∃ a vs, v = .ref a ∧ WtAt K a vs ∧ Reps K mg F ds vs
  | .exc a, v => v = .ref a
  | .cel p is, v => v = .ref p ∧ LstAt K F p (is.map V.int)
def Reps (K : PySem.W.Frag) (mg : Str → Option Value) (F : Hp) : List D → List V → Prop
  | [], vs => vs = []
  | d :: ds, vs => ∃ v r, vs = v :: r ∧ Rep K mg F d v ∧ Reps K mg F ds r
end

section
variable {K : PySem.W.Frag} {mg : Str → Option Value} {F F' : Hp}
theorem TupAt.mono {a : Addr} {vs : List V} (h : ∀ a u, F a = some u → F' a = some u) : TupAt K F a vs → TupAt K F' a vs := fun e => h _ _ e
theorem LstAt.mono {a : Addr} {vs : List V} (h : ∀ a u, F a = some u → F' a = some u) : LstAt K F a vs → LstAt K F' a vs := fun e => h _ _ e
theorem ScrAt.mono {a : Addr} {vs : List V} (h : ∀ a u, F a = some u → F' a = some u) : ScrAt K F a vs → ScrAt K F' a vs
  | .inl e => .inl (h _ _ e)
  | .inr e => .inr e
mutual
theorem Rep.mono (h : ∀ a u, F a = some u → F' a = some u) : ∀ {d : D} {v : V}, Rep K mg F d v → Rep K mg F' d v
  | .non, _, e => e
  | .bl _, _, e => e
  | .int _, _, e => e
  | .str _, _, e => e
  | .tup ds, v, e => by
    unfold Rep at e ⊢
    obtain ⟨a, vs, e1, e2, e3⟩ := e
    exact ⟨a, vs, e1, e2.mono h, Reps.mono h e3⟩
  | .lst ds, v, e => by
    unfold Rep at e ⊢
    obtain ⟨a, vs, e1, e2, e3⟩ := e
    exact ⟨a, vs, e1, e2.mono h, Reps.mono h e3⟩
  | .dk ks ds, v, e => by
    unfold Rep at e ⊢
    obtain ⟨a, ws, e1, e2, e3, e4⟩ := e
    exact ⟨a, ws, e1, h _ _ e2, e3, Reps.mono h e4⟩
  | .dt ks ds, v, e => by
    unfold Rep at e ⊢
    obtain ⟨a, ws, e1, e2, e3, e4⟩ := e
    exact ⟨a, ws, e1, h _ _ e2, e3, Reps.mono h e4⟩
  | .obj c ns ds, v, e => by
    unfold Rep at e ⊢
    obtain ⟨a, C, dx, fs, e1, e0, e2, e3, e4⟩ := e
    exact ⟨a, C, dx, fs, e1, e0, h _ _ e2, e3, Reps.mono h e4⟩
  | .sq is, v, e => by
    unfold Rep at e ⊢
    obtain ⟨a, e1, e2⟩ := e
    exact ⟨a, e1, e2.mono h⟩
  | .wt ds, v, e => by
    unfold Rep at e ⊢
    obtain ⟨a, vs, e1, e2, e3⟩ := e
    exact ⟨a, vs, e1, e2, Reps.mono h e3⟩
  | .exc a, v, e => by
    unfold Rep at e ⊢
    exact e
  | .cel p is, v, e => by
    unfold Rep at e ⊢
    exact ⟨e.1, e.2.mono h⟩
theorem Reps.mono (h : ∀ a u, F a = some u → F' a = some u) : ∀ {ds : List D} {vs : List V}, Reps K mg F ds vs → Reps K mg F' ds vs
  | [], _, e => e
  | d :: ds, vs, e => by
    unfold Reps at e ⊢
    obtain ⟨v, r, e1, e2, e3⟩ := e
    exact ⟨v, r, e1, Rep.mono h e2, Reps.mono h e3⟩
end
theorem reps_nil {vs : List V} : Reps K mg F [] vs ↔ vs = [] := by unfold Reps; exact Iff.rfl
theorem reps_cons {d : D} {ds : List D} {vs : List V} : Reps K mg F (d :: ds) vs ↔ ∃ v r, vs = v :: r ∧ Rep K mg F d v ∧ Reps K mg F ds r := by
  constructor <;> intro h
  · unfold Reps at h; exact h
  · unfold Reps; exact h
theorem Reps.length : ∀ {ds : List D} {vs : List V}, Reps K mg F ds vs → vs.length = ds.length
  | [], _, e => by rw [reps_nil.mp e]; rfl
  | d :: ds, vs, e => by
    obtain ⟨v, r, rfl, _, e3⟩ := reps_cons.mp e
    rw [List.length_cons, List.length_cons, Reps.length e3]
theorem Reps.get : ∀ {ds : List D} {vs : List V} {i : Nat} {d : D}, Reps K mg F ds vs → ds[i]? = some d → ∃ v, vs[i]? = some v ∧ Rep K mg F d v
  | [], _, _, _, _, q => by simp at q
  | d :: ds, vs, 0, d', e, q => by
    obtain ⟨v, r, rfl, e2, e3⟩ := reps_cons.mp e
    have : d = d' := by simpa using q
    subst this
    exact ⟨v, rfl, e2⟩
  | d :: ds, vs, i + 1, d', e, q => by
    obtain ⟨v, r, rfl, e2, e3⟩ := reps_cons.mp e
    obtain ⟨u, h1, h2⟩ := Reps.get (i := i) e3 (by simpa using q)
    exact ⟨u, by simpa using h1, h2⟩
theorem Reps.get' : ∀ {ds : List D} {vs : List V} {i : Nat} {v : V}, Reps K mg F ds vs → vs[i]? = some v → ∃ d, ds[i]? = some d ∧ Rep K mg F d v
  | [], _, i, _, e, q => by rw [reps_nil.mp e] at q; simp at q
  | d :: ds, vs, 0, v', e, q => by
    obtain ⟨v, r, rfl, e2, e3⟩ := reps_cons.mp e
    have : v = v' := by simpa using q
    subst this
    exact ⟨d, rfl, e2⟩
  | d :: ds, vs, i + 1, v', e, q => by
    obtain ⟨v, r, rfl, e2, e3⟩ := reps_cons.mp e
    obtain ⟨u, h1, h2⟩ := Reps.get' (i := i) e3 (by simpa using q)
    exact ⟨u, by simpa using h1, h2⟩
theorem Reps.append : ∀ {ds es : List D} {vs ws : List V}, Reps K mg F ds vs → Reps K mg F es ws → Reps K mg F (ds ++ es) (vs ++ ws)
  | [], es, vs, ws, a, b => by rw [reps_nil.mp a]; exact b
  | d :: ds, es, vs, ws, a, b => by
    obtain ⟨v, r, rfl, e2, e3⟩ := reps_cons.mp a
    exact reps_cons.mpr ⟨v, r ++ ws, rfl, e2, Reps.append e3 b⟩
theorem Reps.one {d : D} {v : V} (h : Rep K mg F d v) : Reps K mg F [d] [v] := reps_cons.mpr ⟨v, [], rfl, h, reps_nil.mpr rfl⟩
theorem Reps.take : ∀ {ds : List D} {vs : List V} (n : Nat), Reps K mg F ds vs → Reps K mg F (ds.take n) (vs.take n)
  | ds, vs, 0, _ => by simpa using reps_nil.mpr rfl
  | [], vs, n + 1, e => by rw [reps_nil.mp e]; simpa using reps_nil.mpr rfl
  | d :: ds, vs, n + 1, e => by
    obtain ⟨v, r, rfl, e2, e3⟩ := reps_cons.mp e
    exact reps_cons.mpr ⟨v, r.take n, rfl, e2, Reps.take n e3⟩
theorem Reps.drop : ∀ {ds : List D} {vs : List V} (n : Nat), Reps K mg F ds vs → Reps K mg F (ds.drop n) (vs.drop n)
  | ds, vs, 0, e => by simpa using e
  | [], vs, n + 1, e => by rw [reps_nil.mp e]; simpa using reps_nil.mpr rfl
  | d :: ds, vs, n + 1, e => by
    obtain ⟨v, r, rfl, e2, e3⟩ := reps_cons.mp e
    exact Reps.drop n e3
theorem Reps.reverse : ∀ {ds : List D} {vs : List V}, Reps K mg F ds vs → Reps K mg F ds.reverse vs.reverse
  | [], vs, e => by rw [reps_nil.mp e]; exact reps_nil.mpr rfl
  | d :: ds, vs, e => by
    obtain ⟨v, r, rfl, e2, e3⟩ := reps_cons.mp e
    rw [List.reverse_cons, List.reverse_cons]
    exact (Reps.reverse e3).append (Reps.one e2)
theorem Reps.set {d : D} {v : V} (h : Rep K mg F d v) : ∀ {ds : List D} {vs : List V} (i : Nat), Reps K mg F ds vs → Reps K mg F (ds.set i d) (vs.set i v)
  | [], vs, i, e => by rw [reps_nil.mp e]; exact reps_nil.mpr rfl
  | d' :: ds, vs, 0, e => by
    obtain ⟨v, r, rfl, e2, e3⟩ := reps_cons.mp e
    exact reps_cons.mpr ⟨_, r, rfl, h, e3⟩
  | d' :: ds, vs, i + 1, e => by
    obtain ⟨v, r, rfl, e2, e3⟩ := reps_cons.mp e
    exact reps_cons.mpr ⟨v, r.set i _, rfl, e2, Reps.set h i e3⟩
/-- ints, texts, bools, None: the same values -/
theorem rep_int {i : Int} {v : V} : Rep K mg F (.int i) v ↔ v = .int i := by unfold Rep; exact Iff.rfl
theorem rep_bl {i : Bool} {v : V} : Rep K mg F (.bl i) v ↔ v = .bl i := by unfold Rep; exact Iff.rfl
theorem rep_str {i : Str} {v : V} : Rep K mg F (.str i) v ↔ v = .str i := by unfold Rep; exact Iff.rfl
theorem rep_non {v : V} : Rep K mg F .non v ↔ v = .non := by unfold Rep; exact Iff.rfl
theorem rep_tup {ds : List D} {v : V} : Rep K mg F (.tup ds) v ↔ ∃ a vs, v = .ref a ∧ TupAt K F a vs ∧ Reps K mg F ds vs := by
  constructor <;> intro h
  · unfold Rep at h; exact h
  · unfold Rep; exact h
theorem rep_lst {ds : List D} {v : V} : Rep K mg F (.lst ds) v ↔ ∃ a vs, v = .ref a ∧ LstAt K F a vs ∧ Reps K mg F ds vs := by
  constructor <;> intro h
  · unfold Rep at h; exact h
  · unfold Rep; exact h
theorem rep_dk {ks : List Key} {ds : List D} {v : V} : Rep K mg F (.dk ks ds) v ↔ ∃ a ws, v = .ref a ∧ F a = some (.dK ws) ∧ ws.map (·.1) = ks ∧ Reps K mg F ds (ws.map (·.2)) := by
  constructor <;> intro h
  · unfold Rep at h; exact h
  · unfold Rep; exact h
theorem rep_dt {ks : List (List Key)} {ds : List D} {v : V} : Rep K mg F (.dt ks ds) v ↔ ∃ a ws, v = .ref a ∧ F a = some (.dT ws) ∧ ws.map (·.1) = ks ∧ Reps K mg F ds (ws.map (·.2)) := by
  constructor <;> intro h
  · unfold Rep at h; exact h
  · unfold Rep; exact h
theorem rep_sq {is : List Int} {v : V} : Rep K mg F (.sq is) v ↔ ∃ a, v = .ref a ∧ ScrAt K F a (is.map V.int) := by
  constructor <;> intro h
  · unfold Rep at h; exact h
  · unfold Rep; exact h
theorem rep_wt {ds : List D} {v : V} : Rep K mg F (.wt ds) v ↔ ∃ a vs, v = .ref a ∧ WtAt K a vs ∧ Reps K mg F ds vs := by
  constructor <;> intro h
  · unfold Rep at h; exact h
  · unfold Rep; exact h
theorem rep_cel {p : Addr} {is : List Int} {v : V} : Rep K mg F (.cel p is) v ↔ v = .ref p ∧ LstAt K F p (is.map V.int) := by
  constructor <;> intro h
  · unfold Rep at h; exact h
  · unfold Rep; exact h
theorem rep_exc {a : Addr} {v : V} : Rep K mg F (.exc a) v ↔ v = .ref a := by
  constructor <;> intro h
  · unfold Rep at h; exact h
  · unfold Rep; exact h
theorem rep_obj {c : Str} {ns : List Str} {ds : List D} {v : V} : Rep K mg F (.obj c ns ds) v ↔ ∃ a C dx fs, v = .ref a ∧ mg c = some (.ref C) ∧ F a = some (.ins C dx fs) ∧ fs.map (·.1) = ns ∧ Reps K mg F ds (fs.map (·.2)) := by
  constructor <;> intro h
  · unfold Rep at h; exact h
  · unfold Rep; exact h
end

/-! ### heaps: what is frozen, what is owned -/
/-- all that is frozen is to be read -/
structure Sub (F H : Hp) : Prop where
  rd : ∀ a u, F a = some u → Rd H a u
  tup : ∀ a vs, H a = some (.tup vs) → F a = some (.tup vs)
  rdT : ∀ a vs, F a = some (.tup vs) → H a = some (.tup vs)
/-- from (F, H) to (F', H'): what stood stands as it was, what was frozen is; nothing is frozen but that or new objects -/
structure Ext (F H F' H' : Hp) : Prop where
  sub : Sub F' H'
  keep : ∀ a o, H a = some o → H' a = some o
  frz : ∀ a u, F a = some u → F' a = some u
  new : ∀ a u, F' a = some u → F a = some u ∨ H a = none
theorem Ext.refl {F H : Hp} (h : Sub F H) : Ext F H F H := ⟨h, fun _ _ e => e, fun _ _ e => e, fun _ _ e => .inl e⟩
theorem Ext.trans {F H F1 H1 F2 H2 : Hp} (a : Ext F H F1 H1) (b : Ext F1 H1 F2 H2) : Ext F H F2 H2 where
  sub := b.sub
  keep := fun c o e => b.keep c o (a.keep c o e)
  frz := fun c u e => b.frz c u (a.frz c u e)
  new := fun c u e => by
    rcases b.new c u e with q | q
    · exact a.new c u q
    · right
      cases h : H c with
      | none => rfl
      | some o => rw [a.keep c o h] at q; cases q
theorem Rd.keep {H H' : Hp} {a : Addr} {u : HO} (h : ∀ a o, H a = some o → H' a = some o) : Rd H a u → Rd H' a u
  | .inl e => .inl (h _ _ e)
  | .inr ⟨o, e⟩ => .inr ⟨o, h _ _ e⟩
theorem Ext.none {F H F' H' : Hp} (x : Ext F H F' H') {p : Addr} (h : H' p = none) : H p = none := by
  cases e : H p with
  | none => rfl
  | some o => rw [x.keep p o e] at h; cases h
theorem Sub.none {F H : Hp} (s : Sub F H) {p : Addr} (h : H p = none) : F p = none := by
  cases e : F p with
  | none => rfl
  | some u =>
    rcases s.rd p u e with q | ⟨o, q⟩ <;> rw [h] at q <;> cases q

/-- the object at p is of this content, its items are frozen -/
def OwnAt (K : PySem.W.Frag) (mg : Str → Option Value) (F H : Hp) (p : Addr) : D → Prop
  | .lst ds => ∃ vs, H p = some (.lst vs) ∧ Reps K mg F ds vs
  | .dk ks ds => ∃ ws, H p = some (.dK ws) ∧ ws.map (·.1) = ks ∧ Reps K mg F ds (ws.map (·.2))
  | .dt ks ds => ∃ ws, H p = some (.dT ws) ∧ ws.map (·.1) = ks ∧ Reps K mg F ds (ws.map (·.2))
  | .obj c ns ds => ∃ C dx fs, mg c = some (.ref C) ∧ H p = some (.ins C dx fs) ∧ fs.map (·.1) = ns ∧ Reps K mg F ds (fs.map (·.2))
  | .cel q is => p = q ∧ H p = some (.lst (is.map V.int))
  | _ => False
section
variable {K : PySem.W.Frag} {mg : Str → Option Value} {F H F' H' : Hp}
theorem OwnAt.ext (x : Ext F H F' H') {p : Addr} : ∀ {d : D}, OwnAt K mg F H p d → OwnAt K mg F' H' p d
  | .cel q is, ⟨e, h⟩ => ⟨e, x.keep _ _ h⟩
  | .lst ds, ⟨vs, e, r⟩ => ⟨vs, x.keep _ _ e, r.mono x.frz⟩
  | .dk ks ds, ⟨vs, e, e2, r⟩ => ⟨vs, x.keep _ _ e, e2, r.mono x.frz⟩
  | .dt ks ds, ⟨vs, e, e2, r⟩ => ⟨vs, x.keep _ _ e, e2, r.mono x.frz⟩
  | .obj c ns ds, ⟨C, dx, fs, g, e, e2, r⟩ => ⟨C, dx, fs, g, x.keep _ _ e, e2, r.mono x.frz⟩
  | .non, h => h.elim
  | .bl _, h => h.elim
  | .int _, h => h.elim
  | .str _, h => h.elim
  | .tup _, h => h.elim
  | .sq _, h => h.elim
  | .wt _, h => h.elim
  | .exc _, h => h.elim
theorem OwnAt.there {p : Addr} : ∀ {d : D}, OwnAt K mg F H p d → ∃ o, H p = some o
  | .cel q is, ⟨e, h⟩ => ⟨_, h⟩
  | .lst ds, ⟨vs, e, r⟩ => ⟨_, e⟩
  | .dk ks ds, ⟨vs, e, e2, r⟩ => ⟨_, e⟩
  | .dt ks ds, ⟨vs, e, e2, r⟩ => ⟨_, e⟩
  | .obj c ns ds, ⟨C, dx, fs, g, e, e2, r⟩ => ⟨_, e⟩
  | .non, h => h.elim
  | .bl _, h => h.elim
  | .int _, h => h.elim
  | .str _, h => h.elim
  | .tup _, h => h.elim
  | .sq _, h => h.elim
  | .wt _, h => h.elim
  | .exc _, h => h.elim
/-- to freeze what is owned -/
theorem OwnAt.freeze {p : Addr} : ∀ {d : D}, OwnAt K mg F H p d → Sub F H → F p = .none → ∃ u, H p = some u ∧ Rep K mg (upd F p u) d (.ref p) ∧ Sub (upd F p u) H ∧ (∀ a w, F a = some w → upd F p u a = some w) := by
  have go : ∀ {u : HO}, H p = some u → Sub F H → F p = none → Sub (upd F p u) H ∧ (∀ a w, F a = some w → upd F p u a = some w) := fun {u} e s n => by
    have keep : ∀ a w, F a = some w → upd F p u a = some w := fun a w h => by rw [upd_ne (ne_of_none h n)]; exact h
    refine ⟨⟨fun a w h => ?_, fun a vs h => keep _ _ (s.tup a vs h), fun a vs h => ?_⟩, keep⟩
    · by_cases z : a = p
      · subst z; rw [upd_same] at h; cases h; exact .inl e
      · rw [upd_ne z] at h; exact s.rd a w h
    · by_cases z : a = p
      · subst z; rw [upd_same] at h; cases h; exact e
      · rw [upd_ne z] at h; exact s.rdT a vs h
  intro d h s n
  cases d with
  | lst ds =>
    obtain ⟨vs, e, r⟩ := h
    obtain ⟨g1, g2⟩ := go e s n
    exact ⟨_, e, rep_lst.mpr ⟨p, vs, rfl, upd_same, r.mono g2⟩, g1, g2⟩
  | dk ks ds =>
    obtain ⟨vs, e, e2, r⟩ := h
    obtain ⟨g1, g2⟩ := go e s n
    exact ⟨_, e, rep_dk.mpr ⟨p, vs, rfl, upd_same, e2, r.mono g2⟩, g1, g2⟩
  | dt ks ds =>
    obtain ⟨vs, e, e2, r⟩ := h
    obtain ⟨g1, g2⟩ := go e s n
    exact ⟨_, e, rep_dt.mpr ⟨p, vs, rfl, upd_same, e2, r.mono g2⟩, g1, g2⟩
  | obj c ns ds =>
    obtain ⟨C, dx, fs, g, e, e2, r⟩ := h
    obtain ⟨g1, g2⟩ := go e s n
    exact ⟨_, e, rep_obj.mpr ⟨p, C, dx, fs, rfl, g, upd_same, e2, r.mono g2⟩, g1, g2⟩
  | cel q is =>
    obtain ⟨rfl, e⟩ := h
    obtain ⟨g1, g2⟩ := go e s n
    exact ⟨_, e, rep_cel.mpr ⟨rfl, upd_same⟩, g1, g2⟩
  | non => exact h.elim
  | bl _ => exact h.elim
  | int _ => exact h.elim
  | str _ => exact h.elim
  | tup _ => exact h.elim
  | sq _ => exact h.elim
  | wt _ => exact h.elim
  | exc _ => exact h.elim
end

/-! ### results and slots -/
inductive Sl where
  | un | fz (d : D) | ow (d : D)
  | io (d : D) (p : Addr) (is : List Int)
inductive R (α : Type) where
  | ok (a : α) | ex (c : Str) (ns : List Str) (ds : List D) | no
def R.bind {α β : Type} : R α → (α → R β) → R β
  | .ok a, f => f a
  | .ex c ns ds, _ => .ex c ns ds
  | .no, _ => .no
@[simp] theorem R.bind_ok {α β : Type} {a : α} {f : α → R β} : (R.ok a).bind f = f a := rfl
@[simp] theorem R.bind_ex {α β : Type} {c ns ds} {f : α → R β} : (R.ex c ns ds : R α).bind f = .ex c ns ds := rfl
@[simp] theorem R.bind_no {α β : Type} {f : α → R β} : (R.no : R α).bind f = .no := rfl
abbrev Rho := List Sl

/-- the slots' contents -/
structure GoodM (K : PySem.W.Frag) (mg : Str → Option Value) (F H : Hp) (ρ : Rho) (σ : L2.St) : Prop where
  sub : Sub F H
  len : ρ.length = σ.length
  fz : ∀ (i : Nat) (d : D), ρ[i]? = some (.fz d) → ∃ v, σ[i]? = some (some v) ∧ Rep K mg F d v
  ow : ∀ (i : Nat) (d : D), ρ[i]? = some (.ow d) → ∃ p, σ[i]? = some (some (.ref p)) ∧ F p = none ∧ OwnAt K mg F H p d
  inj : ∀ (i j : Nat) (d e : D) (p : Addr), ρ[i]? = some (.ow d) → ρ[j]? = some (.ow e) → σ[i]? = some (some (.ref p)) → σ[j]? = some (some (.ref p)) → i = j

/-- a value, frozen or new -/
def Res (K : PySem.W.Frag) (mg : Str → Option Value) (H F' H' : Hp) : Sl → V → Prop
  | .fz d, v => Rep K mg F' d v
  | .ow d, v => ∃ p, v = .ref p ∧ H p = none ∧ F' p = none ∧ OwnAt K mg F' H' p d
  | .un, _ => False
  | .io _ _ _, _ => False
/-- a value that is looked at -/
def Held (K : PySem.W.Frag) (mg : Str → Option Value) (F H : Hp) (d : D) (v : V) : Prop :=
  Rep K mg F d v ∨ ∃ p, v = .ref p ∧ OwnAt K mg F H p d
def Helds (K : PySem.W.Frag) (mg : Str → Option Value) (F H : Hp) : List D → List V → Prop
  | [], vs => vs = []
  | d :: ds, vs => ∃ v r, vs = v :: r ∧ Held K mg F H d v ∧ Helds K mg F H ds r
def RepX (K : PySem.W.Frag) (mg : Str → Option Value) (F H : Hp) (c : Str) (ns : List Str) (ds : List D) (cl : Value) (dx : Option Addr) : Prop :=
  ∃ C, mg c = some (.ref C) ∧ cl = .ref C ∧ match ns with
    | [] => dx = none
    | _ => ∃ a fs, dx = some a ∧ H a = some (.xd fs) ∧ fs.map (·.1) = ns ∧ Reps K mg F ds (fs.map (·.2))

section
variable {K : PySem.W.Frag} {mg : Str → Option Value} {F H F' H' : Hp} {ρ : Rho} {σ : L2.St}
theorem Held.ext (x : Ext F H F' H') {d : D} {v : V} : Held K mg F H d v → Held K mg F' H' d v
  | .inl r => .inl (r.mono x.frz)
  | .inr ⟨p, e, o⟩ => .inr ⟨p, e, o.ext x⟩
theorem Helds.ext (x : Ext F H F' H') : ∀ {ds : List D} {vs : List V}, Helds K mg F H ds vs → Helds K mg F' H' ds vs
  | [], _, e => e
  | d :: ds, vs, ⟨v, r, e, h, t⟩ => ⟨v, r, e, h.ext x, Helds.ext x t⟩
theorem GoodM.ext (g : GoodM K mg F H ρ σ) (x : Ext F H F' H') : GoodM K mg F' H' ρ σ where
  sub := x.sub
  len := g.len
  fz := fun i d e => let ⟨v, h, r⟩ := g.fz i d e; ⟨v, h, r.mono x.frz⟩
  ow := fun i d e => by
    obtain ⟨p, h, n, o⟩ := g.ow i d e
    refine ⟨p, h, ?_, o.ext x⟩
    cases q : F' p with
    | none => rfl
    | some u =>
      rcases x.new p u q with z | z
      · rw [n] at z; cases z
      · obtain ⟨o, eo⟩ := o.there
        rw [z] at eo; cases eo
  inj := g.inj
theorem Res.held {s : Sl} {v : V} : Res K mg H F' H' s v → ∃ d, (s = .fz d ∨ s = .ow d) ∧ Held K mg F' H' d v := by
  cases s with
  | fz d => exact fun r => ⟨d, .inl rfl, .inl r⟩
  | ow d => exact fun ⟨p, e, _, _, o⟩ => ⟨d, .inr rfl, .inr ⟨p, e, o⟩⟩
  | un => exact fun h => h.elim
  | io _ _ _ => exact fun h => h.elim
theorem held_int {i : Int} {v : V} : Held K mg F H (.int i) v ↔ v = .int i := by
  constructor
  · rintro (r | ⟨p, _, o⟩)
    · exact rep_int.mp r
    · exact o.elim
  · exact fun e => .inl (rep_int.mpr e)
theorem held_bl {i : Bool} {v : V} : Held K mg F H (.bl i) v ↔ v = .bl i := by
  constructor
  · rintro (r | ⟨p, _, o⟩)
    · exact rep_bl.mp r
    · exact o.elim
  · exact fun e => .inl (rep_bl.mpr e)
theorem held_str {i : Str} {v : V} : Held K mg F H (.str i) v ↔ v = .str i := by
  constructor
  · rintro (r | ⟨p, _, o⟩)
    · exact rep_str.mp r
    · exact o.elim
  · exact fun e => .inl (rep_str.mpr e)
theorem held_non {v : V} : Held K mg F H .non v ↔ v = .non := by
  constructor
  · rintro (r | ⟨p, _, o⟩)
    · exact rep_non.mp r
    · exact o.elim
  · exact fun e => .inl (rep_non.mpr e)
theorem TupAt.sq (s : Sub F H) {a : Addr} {vs : List V} : TupAt K F a vs → SqT K H a vs := fun e => .inl (s.rd _ _ e)
theorem WtAt.sq {a : Addr} {vs : List V} : WtAt K a vs → SqT K H a vs
  | .inl (.inl e) => nomatch e
  | .inl (.inr ⟨_, e⟩) => nomatch e
  | .inr e => .inr e
theorem LstAt.sq (s : Sub F H) {a : Addr} {vs : List V} : LstAt K F a vs → SqL K H a vs := fun e => .inl (s.rd _ _ e)
theorem ScrAt.sq (s : Sub F H) {a : Addr} {vs : List V} : ScrAt K F a vs → SqL K H a vs
  | .inl e => .inl (s.rd _ _ e)
  | .inr (.inl (.inl e)) => nomatch e
  | .inr (.inl (.inr ⟨_, e⟩)) => nomatch e
  | .inr (.inr e) => .inr e
theorem Held.sq (s : Sub F H) {is : List Int} {v : V} (h : Held K mg F H (.sq is) v) : ∃ a, v = .ref a ∧ ScrAt K F a (is.map V.int) := by
  rcases h with r | ⟨p, e, o⟩
  · exact rep_sq.mp r
  · exact o.elim
theorem reps_ints : ∀ is : List Int, Reps K mg F (is.map .int) (is.map V.int)
  | [] => reps_nil.mpr rfl
  | i :: is => reps_cons.mpr ⟨_, _, rfl, rep_int.mpr rfl, reps_ints is⟩
/-- a list that is looked at -/
theorem Held.lstR (s : Sub F H) {ds : List D} {v : V} (h : Held K mg F H (.lst ds) v) : ∃ a vs, v = .ref a ∧ Rd H a (.lst vs) ∧ Reps K mg F ds vs := by
  rcases h with r | ⟨p, e, vs, o, r⟩
  · obtain ⟨a, vs, e1, e2, e3⟩ := rep_lst.mp r
    exact ⟨a, vs, e1, s.rd _ _ e2, e3⟩
  · exact ⟨p, vs, e, .inl o, r⟩
theorem Held.lst (s : Sub F H) {ds : List D} {v : V} (h : Held K mg F H (.lst ds) v) : ∃ a vs, v = .ref a ∧ SqL K H a vs ∧ Reps K mg F ds vs := by
  rcases h with r | ⟨p, e, vs, o, r⟩
  · obtain ⟨a, vs, e1, e2, e3⟩ := rep_lst.mp r
    exact ⟨a, vs, e1, e2.sq s, e3⟩
  · exact ⟨p, vs, e, .inl (.inl o), r⟩
theorem Held.tup (s : Sub F H) {ds : List D} {v : V} (h : Held K mg F H (.tup ds) v) : ∃ a vs, v = .ref a ∧ SqT K H a vs ∧ Reps K mg F ds vs := by
  rcases h with r | ⟨p, e, o⟩
  · obtain ⟨a, vs, e1, e2, e3⟩ := rep_tup.mp r
    exact ⟨a, vs, e1, e2.sq s, e3⟩
  · exact o.elim
theorem Held.wt {ds : List D} {v : V} (h : Held K mg F H (.wt ds) v) : ∃ a vs, v = .ref a ∧ WtAt K a vs ∧ Reps K mg F ds vs := by
  rcases h with r | ⟨p, e, o⟩
  · exact rep_wt.mp r
  · exact o.elim
theorem Held.dk (s : Sub F H) {ks : List Key} {ds : List D} {v : V} (h : Held K mg F H (.dk ks ds) v) : ∃ a ws, v = .ref a ∧ Rd H a (.dK ws) ∧ ws.map (·.1) = ks ∧ Reps K mg F ds (ws.map (·.2)) := by
  rcases h with r | ⟨p, e, vs, o, e2, r⟩
  · obtain ⟨a, vs, e1, e2, e3, e4⟩ := rep_dk.mp r
    exact ⟨a, vs, e1, s.rd _ _ e2, e3, e4⟩
  · exact ⟨p, vs, e, .inl o, e2, r⟩
theorem Held.dt (s : Sub F H) {ks : List (List Key)} {ds : List D} {v : V} (h : Held K mg F H (.dt ks ds) v) : ∃ a ws, v = .ref a ∧ Rd H a (.dT ws) ∧ ws.map (·.1) = ks ∧ Reps K mg F ds (ws.map (·.2)) := by
  rcases h with r | ⟨p, e, vs, o, e2, r⟩
  · obtain ⟨a, vs, e1, e2, e3, e4⟩ := rep_dt.mp r
    exact ⟨a, vs, e1, s.rd _ _ e2, e3, e4⟩
  · exact ⟨p, vs, e, .inl o, e2, r⟩
theorem Held.cel (s : Sub F H) {p : Addr} {is : List Int} {v : V} (h : Held K mg F H (.cel p is) v) : v = .ref p ∧ Rd H p (.lst (is.map V.int)) := by
  rcases h with r | ⟨q, e, rfl, o⟩
  · obtain ⟨e1, e2⟩ := rep_cel.mp r
    exact ⟨e1, s.rd _ _ e2⟩
  · exact ⟨e, .inl o⟩
end

end Mp

namespace Mp
open PySem PySem.Spec PyProof.Rows L2

abbrev SS := L2.St

section
variable (K : PySem.W.Frag) (mg : Str → Option Value) (W : WX)
def XPost (F H : Hp) (σ : SS) (c : Str) (ns : List Str) (ds : List D) : Prop := ∀ cl dx F' H', Ext F H F' H' → RepX K mg F' H' c ns ds cl dx → W cl dx σ H'
def EPost (F H : Hp) (σ : SS) (Q : VK) : R Sl → Prop
  | .ok s => ∀ v F' H', Ext F H F' H' → Res K mg H F' H' s v → Q v H'
  | .ex c ns ds => XPost K mg W F H σ c ns ds
  | .no => False
def BPost (F H : Hp) (σ : SS) (Q : VK) : R D → Prop
  | .ok d => ∀ v F' H', Ext F H F' H' → Held K mg F' H' d v → Q v H'
  | .ex c ns ds => XPost K mg W F H σ c ns ds
  | .no => False
def TPost (F H : Hp) (σ : SS) (Q : Bool → Hp → Prop) : R Bool → Prop
  | .ok b => ∀ F' H', Ext F H F' H' → Q b H'
  | .ex c ns ds => XPost K mg W F H σ c ns ds
  | .no => False
/-- arguments: all frozen; all looked at -/
def APost (F H : Hp) (σ : SS) (Q : List V → Hp → Prop) : R (List D) → Prop
  | .ok ds => ∀ vs F' H', Ext F H F' H' → Reps K mg F' ds vs → Q vs H'
  | .ex c ns ds => XPost K mg W F H σ c ns ds
  | .no => False
def LPost (F H : Hp) (σ : SS) (Q : List V → Hp → Prop) : R (List D) → Prop
  | .ok ds => ∀ vs F' H', Ext F H F' H' → Helds K mg F' H' ds vs → Q vs H'
  | .ex c ns ds => XPost K mg W F H σ c ns ds
  | .no => False
def tM (f : Rho → R Sl) : TE := fun σ H Q => ∃ F ρ, GoodM K mg F H ρ σ ∧ EPost K mg W F H σ Q (f ρ)
def tV (f : Rho → R D) : TE := fun σ H Q => ∃ F ρ, GoodM K mg F H ρ σ ∧ BPost K mg W F H σ Q (f ρ)
def tT (f : Rho → R Bool) : TT := fun σ H Q => ∃ F ρ, GoodM K mg F H ρ σ ∧ TPost K mg W F H σ Q (f ρ)
def tA (f : Rho → R (List D)) : TA := fun σ H Q => ∃ F ρ, GoodM K mg F H ρ σ ∧ APost K mg W F H σ Q (f ρ)
def tL (f : Rho → R (List D)) : TA := fun σ H Q => ∃ F ρ, GoodM K mg F H ρ σ ∧ LPost K mg W F H σ Q (f ρ)
end
/-- the value, new or frozen; the value, looked at; the test; the arguments -/
abbrev ME (X : Cx) (W : WX) (e : Expr) (f : Rho → R Sl) : Prop := PE X e (tM X.K X.mg W f)
abbrev MV (X : Cx) (W : WX) (e : Expr) (f : Rho → R D) : Prop := PE X e (tV X.K X.mg W f)
abbrev MT (X : Cx) (W : WX) (e : Expr) (f : Rho → R Bool) : Prop := PT X e (tT X.K X.mg W f)
abbrev MW (X : Cx) (W : WX) (e : Expr) (f : Rho → R Bool) : Prop := PW X e (tT X.K X.mg W f)
abbrev MA (X : Cx) (W : WX) (es : List Expr) (f : Rho → R (List D)) : Prop := PA X es (tA X.K X.mg W f)
abbrev ML (X : Cx) (W : WX) (es : List Expr) (f : Rho → R (List D)) : Prop := PA X es (tL X.K X.mg W f)

theorem pe_imp {X : Cx} {e : Expr} {t t' : TE} (h : PE X e t) (i : ∀ σ H Q, t' σ H Q → t σ H Q) : PE X e t' := ⟨fun pins s σ H Q I q => h.run pins s σ H Q I (i σ H Q q)⟩
theorem pt_imp {X : Cx} {e : Expr} {t t' : TT} (h : PT X e t) (i : ∀ σ H Q, t' σ H Q → t σ H Q) : PT X e t' := ⟨fun pins s σ H Q I q => h.run pins s σ H Q I (i σ H Q q)⟩
theorem pw_imp {X : Cx} {e : Expr} {t t' : TT} (h : PW X e t) (i : ∀ σ H Q, t' σ H Q → t σ H Q) : PW X e t' := ⟨fun wh pins s σ H Q I q => h.run wh pins s σ H Q I (i σ H Q q)⟩
theorem pa_imp {X : Cx} {es : List Expr} {t t' : TA} (h : PA X es t) (i : ∀ σ H Q, t' σ H Q → t σ H Q) : PA X es t' := ⟨fun pos pins s σ H Q I q => h.run pos pins s σ H Q I (i σ H Q q)⟩

/-! ### chaining -/
section
variable {K : PySem.W.Frag} {mg : Str → Option Value} {W : WX} {F H F1 H1 : Hp} {ρ : Rho} {σ : SS}
theorem XPost.ext (x : Ext F H F1 H1) {c ns ds} (h : XPost K mg W F H σ c ns ds) : XPost K mg W F1 H1 σ c ns ds := fun cl dx F' H' x' r => h cl dx F' H' (x.trans x') r
/-- look at a value, then go on -/
theorem tV_bind {f : Rho → R D} {β : Type} {k : D → R β} {Q : VK} (g : GoodM K mg F H ρ σ)
    (hx : ∀ c ns ds, f ρ = .ex c ns ds → XPost K mg W F H σ c ns ds) (hn : f ρ ≠ .no)
    (h : ∀ d v F' H', f ρ = .ok d → Ext F H F' H' → GoodM K mg F' H' ρ σ → Held K mg F' H' d v → Q v H') : tV K mg W f σ H Q := by
  refine ⟨F, ρ, g, ?_⟩
  cases e : f ρ with
  | ok d => exact fun v F' H' x r => h d v F' H' e x (g.ext x) r
  | ex c ns ds => exact hx c ns ds e
  | no => exact (hn e).elim
theorem tM_bind {f : Rho → R Sl} {Q : VK} (g : GoodM K mg F H ρ σ)
    (hx : ∀ c ns ds, f ρ = .ex c ns ds → XPost K mg W F H σ c ns ds) (hn : f ρ ≠ .no)
    (h : ∀ d v F' H', f ρ = .ok d → Ext F H F' H' → GoodM K mg F' H' ρ σ → Res K mg H F' H' d v → Q v H') : tM K mg W f σ H Q := by
  refine ⟨F, ρ, g, ?_⟩
  cases e : f ρ with
  | ok d => exact fun v F' H' x r => h d v F' H' e x (g.ext x) r
  | ex c ns ds => exact hx c ns ds e
  | no => exact (hn e).elim
theorem EPost.ext (x : Ext F H F1 H1) {Q : VK} : ∀ {r : R Sl}, EPost K mg W F H σ Q r → EPost K mg W F1 H1 σ Q r
  | .ok s, h => fun v F' H' x' r => h v F' H' (x.trans x') (by
      cases s with
      | fz d => exact r
      | ow d => obtain ⟨p, e, n, m, o⟩ := r; exact ⟨p, e, x.none n, m, o⟩
      | un => exact r
      | io _ _ _ => exact r)
  | .ex c ns ds, h => XPost.ext x h
  | .no, h => h
theorem BPost.ext (x : Ext F H F1 H1) {Q : VK} : ∀ {r : R D}, BPost K mg W F H σ Q r → BPost K mg W F1 H1 σ Q r
  | .ok s, h => fun v F' H' x' r => h v F' H' (x.trans x') r
  | .ex c ns ds, h => XPost.ext x h
  | .no, h => h
theorem TPost.ext (x : Ext F H F1 H1) {Q : Bool → Hp → Prop} : ∀ {r : R Bool}, TPost K mg W F H σ Q r → TPost K mg W F1 H1 σ Q r
  | .ok s, h => fun F' H' x' => h F' H' (x.trans x')
  | .ex c ns ds, h => XPost.ext x h
  | .no, h => h
theorem APost.ext (x : Ext F H F1 H1) {Q : List V → Hp → Prop} : ∀ {r : R (List D)}, APost K mg W F H σ Q r → APost K mg W F1 H1 σ Q r
  | .ok s, h => fun v F' H' x' r => h v F' H' (x.trans x') r
  | .ex c ns ds, h => XPost.ext x h
  | .no, h => h
theorem LPost.ext (x : Ext F H F1 H1) {Q : List V → Hp → Prop} : ∀ {r : R (List D)}, LPost K mg W F H σ Q r → LPost K mg W F1 H1 σ Q r
  | .ok s, h => fun v F' H' x' r => h v F' H' (x.trans x') r
  | .ex c ns ds, h => XPost.ext x h
  | .no, h => h
/-- generic: P is one of the posts, closed under ext -/
theorem tV_then {f : Rho → R D} {β : Type} {k : D → R β} {P : Hp → Hp → R β → Prop} {Q : VK} (g : GoodM K mg F H ρ σ) (hp : P F H ((f ρ).bind k))
    (px : ∀ c ns ds, P F H (.ex c ns ds) → XPost K mg W F H σ c ns ds) (pn : ¬ P F H .no) (pe : ∀ F' H' r, Ext F H F' H' → P F H r → P F' H' r)
    (h : ∀ d v F' H', f ρ = .ok d → Ext F H F' H' → GoodM K mg F' H' ρ σ → Held K mg F' H' d v → P F' H' (k d) → Q v H') : tV K mg W f σ H Q := by
  refine tV_bind (β := β) (k := k) g (fun c ns ds e => px c ns ds (by rw [e] at hp; exact hp)) (fun e => pn (by rw [e] at hp; exact hp)) fun d v F' H' e x g' r => h d v F' H' e x g' r (pe F' H' _ x (by rw [e] at hp; exact hp))
theorem tM_then {f : Rho → R Sl} {β : Type} {k : Sl → R β} {P : Hp → Hp → R β → Prop} {Q : VK} (g : GoodM K mg F H ρ σ) (hp : P F H ((f ρ).bind k))
    (px : ∀ c ns ds, P F H (.ex c ns ds) → XPost K mg W F H σ c ns ds) (pn : ¬ P F H .no) (pe : ∀ F' H' r, Ext F H F' H' → P F H r → P F' H' r)
    (h : ∀ d v F' H', f ρ = .ok d → Ext F H F' H' → GoodM K mg F' H' ρ σ → Res K mg H F' H' d v → P F' H' (k d) → Q v H') : tM K mg W f σ H Q := by
  refine tM_bind g (fun c ns ds e => px c ns ds (by rw [e] at hp; exact hp)) (fun e => pn (by rw [e] at hp; exact hp)) fun d v F' H' e x g' r => h d v F' H' e x g' r (pe F' H' _ x (by rw [e] at hp; exact hp))
end

/-! ### the meanings -/
@[simp] def rdV (i : Nat) : Rho → R D := fun ρ => match ρ[i]? with
  | some (.fz d) => .ok d
  | some (.ow d) => .ok d
  | _ => .no
@[simp] def rdF (i : Nat) : Rho → R Sl := fun ρ => match ρ[i]? with
  | some (.fz d) => .ok (.fz d)
  | _ => .no
@[simp] def cV (d : D) : Rho → R D := fun _ => .ok d
@[simp] def slD : Sl → R D
  | .fz d => .ok d
  | .ow d => .ok d
  | .un => .no
  | .io _ _ _ => .no
@[simp] def toV (f : Rho → R Sl) : Rho → R D := fun ρ => (f ρ).bind slD
@[simp] def flatD : D → Bool
  | .non => true | .bl _ => true | .int _ => true | .str _ => true | _ => false
@[simp] def toF (f : Rho → R D) : Rho → R Sl := fun ρ => (f ρ).bind fun d => if flatD d then .ok (.fz d) else .no
@[simp] def op2 (g : D → D → R D) (f h : Rho → R D) : Rho → R D := fun ρ => (f ρ).bind fun a => (h ρ).bind fun b => g a b
@[simp] def op2S (g : D → D → R Sl) (f h : Rho → R D) : Rho → R Sl := fun ρ => (f ρ).bind fun a => (h ρ).bind fun b => g a b
@[simp] def op1 (g : D → R D) (f : Rho → R D) : Rho → R D := fun ρ => (f ρ).bind g
@[simp] def asB : D → R Bool
  | .bl b => .ok b
  | _ => .no
@[simp] def toT (f : Rho → R D) : Rho → R Bool := fun ρ => (f ρ).bind asB
@[simp] def andT (f g : Rho → R Bool) : Rho → R Bool := fun ρ => (f ρ).bind fun b => if b then g ρ else .ok false
@[simp] def orT (f g : Rho → R Bool) : Rho → R Bool := fun ρ => (f ρ).bind fun b => if b then .ok true else g ρ
@[simp] def notT (f : Rho → R Bool) : Rho → R Bool := fun ρ => (f ρ).bind fun b => .ok (!b)
@[simp] def iteM {α : Type} (c : Rho → R Bool) (f g : Rho → R α) : Rho → R α := fun ρ => (c ρ).bind fun b => if b then f ρ else g ρ
@[simp] def ofT (f : Rho → R Bool) : Rho → R D := fun ρ => (f ρ).bind fun b => .ok (.bl b)
@[simp] def nilA : Rho → R (List D) := fun _ => .ok []
@[simp] def consA (f : Rho → R D) (g : Rho → R (List D)) : Rho → R (List D) := fun ρ => (f ρ).bind fun d => (g ρ).bind fun ds => .ok (d :: ds)

section
variable {X : Cx} {W : WX} {e a b : Expr} {pos : Pos} {f h : Rho → R D} {m n : Rho → R Sl}

theorem held_slD {K : PySem.W.Frag} {mg : Str → Option Value} {H F' H' : Hp} {s : Sl} {v : V} (r : Res K mg H F' H' s v) : ∃ d, slD s = .ok d ∧ Held K mg F' H' d v := by
  obtain ⟨d, e, h⟩ := r.held
  rcases e with rfl | rfl <;> exact ⟨d, rfl, h⟩
/-- what is computed is looked at -/
theorem mv_of (he : ME X W e m) : MV X W e (toV m) := by
  refine pe_imp he fun σ H Q ⟨F, ρ, g, q⟩ => ?_
  refine tM_then (P := fun F H => BPost X.K X.mg W F H σ Q) g q (fun _ _ _ z => z) (fun z => z) (fun F' H' r x z => z.ext x) fun s v F' H' _ x g' r z => ?_
  obtain ⟨d, e, hd⟩ := held_slD r
  rw [e] at z
  exact z v F' H' (.refl g'.sub) hd
theorem held_flat {K : PySem.W.Frag} {mg : Str → Option Value} {F H : Hp} {d : D} {v : V} (fl : flatD d = true) (h : Held K mg F H d v) : Rep K mg F d v := by
  rcases h with r | ⟨p, _, o⟩
  · exact r
  · cases d <;> first | exact o.elim | cases fl
/-- a plain value is its own copy -/
theorem me_of (he : MV X W e f) : ME X W e (toF f) := by
  refine pe_imp he fun σ H Q ⟨F, ρ, g, q⟩ => ?_
  refine tV_then (P := fun F H => EPost X.K X.mg W F H σ Q) g q (fun _ _ _ z => z) (fun z => z) (fun F' H' r x z => z.ext x) fun d v F' H' _ x g' r z => ?_
  cases fl : flatD d with
  | false => rw [if_neg (by rw [fl]; decide)] at z; exact z.elim
  | true =>
    rw [if_pos fl] at z
    exact z v F' H' (.refl g'.sub) (held_flat fl r)
theorem mv_v (i : Nat) {x : Str} {pos : Pos} (hN : X.N[i]? = some x := by rfl) (hv : Vis X.env.scope x := by first | exact Or.inl rfl | exact Or.inr (Or.inl rfl) | exact Or.inr (Or.inr rfl)) (hd : (x == ("__debug__" : Str)) = false := by decide)
    (hcd : (x == ("__classdict__" : Str)) = false := by decide) : MV X W (.Name x pos) (rdV i) := by
  refine pe_imp (pe_var hN hv hd hcd) fun σ H Q ⟨F, ρ, g, q⟩ => ?_
  unfold rdV at q
  split at q
  · next d e =>
    obtain ⟨v, h1, h2⟩ := g.fz i d e
    exact ⟨v, h1, q v F H (.refl g.sub) (.inl h2)⟩
  · next d e =>
    obtain ⟨p, h1, h2, h3⟩ := g.ow i d e
    exact ⟨_, h1, q _ F H (.refl g.sub) (.inr ⟨p, rfl, h3⟩)⟩
  · exact q.elim
theorem me_v (i : Nat) {x : Str} {pos : Pos} (hN : X.N[i]? = some x := by rfl) (hv : Vis X.env.scope x := by first | exact Or.inl rfl | exact Or.inr (Or.inl rfl) | exact Or.inr (Or.inr rfl)) (hd : (x == ("__debug__" : Str)) = false := by decide)
    (hcd : (x == ("__classdict__" : Str)) = false := by decide) : ME X W (.Name x pos) (rdF i) := by
  refine pe_imp (pe_var hN hv hd hcd) fun σ H Q ⟨F, ρ, g, q⟩ => ?_
  unfold rdF at q
  split at q
  · next d e =>
    obtain ⟨v, h1, h2⟩ := g.fz i d e
    exact ⟨v, h1, q v F H (.refl g.sub) h2⟩
  · exact q.elim
theorem mv_c {v : V} {d : D} (h : PE X e (tC v)) (r : ∀ F H, Held X.K X.mg F H d v) : MV X W e (cV d) :=
  pe_imp h fun σ H Q ⟨F, ρ, g, q⟩ => q v F H (.refl g.sub) (r F H)
theorem mv_int {i j pos} : MV X W (.Constant (.int i) j pos) (cV (.int i)) := mv_c pe_int fun _ _ => held_int.mpr rfl
theorem mv_bl {i j pos} : MV X W (.Constant (.bool i) j pos) (cV (.bl i)) := mv_c pe_bl fun _ _ => held_bl.mpr rfl
theorem mv_non {j pos} : MV X W (.Constant .none j pos) (cV .non) := mv_c pe_non fun _ _ => held_non.mpr rfl
theorem mv_str {x j pos} : MV X W (.Constant (.str x) j pos) (cV (.str x)) := mv_c pe_str fun _ _ => held_str.mpr rfl

/-- two looks in a row -/
theorem two_looks {Q2 : V → V → Hp → Prop} {β : Type} {k : D → D → R β} {P : Hp → Hp → R β → Prop} {K : PySem.W.Frag} {mg : Str → Option Value} {F H : Hp} {ρ : Rho} {σ : SS} (g : GoodM K mg F H ρ σ) (hp : P F H ((f ρ).bind fun a => (h ρ).bind fun b => k a b))
    (px : ∀ F H c ns ds, P F H (.ex c ns ds) → XPost K mg W F H σ c ns ds) (pn : ∀ F H, ¬ P F H .no) (pe : ∀ F H F' H' r, Ext F H F' H' → P F H r → P F' H' r)
    (hh : ∀ d1 d2 v1 v2 F' H', Ext F H F' H' → GoodM K mg F' H' ρ σ → Held K mg F' H' d1 v1 → Held K mg F' H' d2 v2 → P F' H' (k d1 d2) → Q2 v1 v2 H') :
    tV K mg W f σ H fun x H1 => tV K mg W h σ H1 fun y H2 => Q2 x y H2 :=
  tV_then g hp (px F H) (pn F H) (fun F' H' r => pe F H F' H' r) fun d1 v1 F1 H1 _ x1 g1 r1 z1 =>
    tV_then g1 z1 (px F1 H1) (pn F1 H1) (fun F' H' r => pe F1 H1 F' H' r) fun d2 v2 F2 H2 _ x2 g2 r2 z2 => hh d1 d2 v1 v2 F2 H2 (x1.trans x2) g2 (r1.ext x2) r2 z2

/-- an operation on values r does what g does on deep values; nothing is made -/
def Sim2 (X : Cx) (r : R2) (g : D → D → R D) : Prop := ∀ F H d1 d2 v1 v2 d (Q : VK), Sub F H → Held X.K X.mg F H d1 v1 → Held X.K X.mg F H d2 v2 → g d1 d2 = .ok d → (∀ v, Held X.K X.mg F H d v → Q v H) → r v1 v2 H Q
/-- .. something new is made -/
def Sim2S (X : Cx) (r : R2) (g : D → D → R Sl) : Prop := ∀ F H d1 d2 v1 v2 s (Q : VK), Sub F H → Held X.K X.mg F H d1 v1 → Held X.K X.mg F H d2 v2 → g d1 d2 = .ok s → (∀ v F' H', Ext F H F' H' → Res X.K X.mg H F' H' s v → Q v H') → r v1 v2 H Q
def NoEx {α : Type} (r : R α) : Prop := ∀ c ns ds, r ≠ .ex c ns ds
theorem mv_op {op : Operator} {r : R2} {g : D → D → R D} (ho : OpR X (binaryOp op) r) (hs : Sim2 X r g) (hn : ∀ a b, NoEx (g a b)) (ha : MV X W a f) (hb : MV X W b h) : MV X W (.BinOp a op b pos) (op2 g f h) := by
  refine pe_imp (pe_op ho ha hb) fun σ H Q ⟨F, ρ, gd, q⟩ => ?_
  refine two_looks (P := fun F H => BPost X.K X.mg W F H σ Q) gd q (fun _ _ _ _ _ z => z) (fun _ _ z => z) (fun _ _ _ _ _ x z => z.ext x) fun d1 d2 v1 v2 F' H' x g' r1 r2 z => ?_
  cases e : g d1 d2 with
  | ok d => rw [e] at z; exact hs F' H' d1 d2 v1 v2 d Q g'.sub r1 r2 e fun v hv => z v F' H' (.refl g'.sub) hv
  | ex c ns ds => exact (hn d1 d2 c ns ds e).elim
  | no => rw [e] at z; exact z.elim
theorem me_op {op : Operator} {r : R2} {g : D → D → R Sl} (ho : OpR X (binaryOp op) r) (hs : Sim2S X r g) (hn : ∀ a b, NoEx (g a b)) (ha : MV X W a f) (hb : MV X W b h) : ME X W (.BinOp a op b pos) (op2S g f h) := by
  refine pe_imp (pe_op ho ha hb) fun σ H Q ⟨F, ρ, gd, q⟩ => ?_
  refine two_looks (P := fun F H => EPost X.K X.mg W F H σ Q) gd q (fun _ _ _ _ _ z => z) (fun _ _ z => z) (fun _ _ _ _ _ x z => z.ext x) fun d1 d2 v1 v2 F' H' x g' r1 r2 z => ?_
  cases e : g d1 d2 with
  | ok d => rw [e] at z; exact hs F' H' d1 d2 v1 v2 d Q g'.sub r1 r2 e fun v F2 H2 x2 hv => z v F2 H2 x2 hv
  | ex c ns ds => exact (hn d1 d2 c ns ds e).elim
  | no => rw [e] at z; exact z.elim
theorem mv_cmp {op : CmpOp} {r : R2} {g : D → D → R D} (ho : OpR X (compareOp op) r) (hs : Sim2 X r g) (hn : ∀ a b, NoEx (g a b)) (ha : MV X W a f) (hb : MV X W b h) (hm : behindInMarks op b = false) : MV X W (.Compare a [op] [b] pos) (op2 g f h) := by
  refine pe_imp (pe_cmpR ho ha hb hm) fun σ H Q ⟨F, ρ, gd, q⟩ => ?_
  refine two_looks (P := fun F H => BPost X.K X.mg W F H σ Q) gd q (fun _ _ _ _ _ z => z) (fun _ _ z => z) (fun _ _ _ _ _ x z => z.ext x) fun d1 d2 v1 v2 F' H' x g' r1 r2 z => ?_
  cases e : g d1 d2 with
  | ok d => rw [e] at z; exact hs F' H' d1 d2 v1 v2 d Q g'.sub r1 r2 e fun v hv => z v F' H' (.refl g'.sub) hv
  | ex c ns ds => exact (hn d1 d2 c ns ds e).elim
  | no => rw [e] at z; exact z.elim
theorem asB_ex {d : D} {c ns ds} (h : asB d = .ex c ns ds) : False := by cases d <;> cases h
theorem asB_ok {d : D} {b : Bool} (h : asB d = .ok b) : d = .bl b := by cases d <;> cases h; rfl
theorem mt_cmp {op : CmpOp} {r : R2} {g : D → D → R D} (ho : OpR X (compareOp op) r) (hs : Sim2 X r g) (hn : ∀ a b, NoEx (g a b)) (ha : MV X W a f) (hb : MV X W b h) (hm : behindInMarks op b = false) : MT X W (.Compare a [op] [b] pos) (toT (op2 g f h)) := by
  refine pt_imp (pt_cmpR ho ha hb hm) fun σ H Q ⟨F, ρ, gd, q⟩ => ?_
  have q' : TPost X.K X.mg W F H σ Q ((f ρ).bind fun a => (h ρ).bind fun b => (g a b).bind asB) := by
    unfold toT op2 at q
    cases e1 : f ρ with
    | ok d1 =>
      rw [e1] at q
      cases e2 : h ρ with
      | ok d2 => rw [e2] at q; exact q
      | ex c ns ds => rw [e2] at q; exact q
      | no => rw [e2] at q; exact q
    | ex c ns ds => rw [e1] at q; exact q
    | no => rw [e1] at q; exact q
  refine two_looks (Q2 := fun x y H2 => r x y H2 fun z H' => ∃ k, z = .bl k ∧ Q k H') (P := fun F H => TPost X.K X.mg W F H σ Q) gd q' (fun _ _ _ _ _ z => z) (fun _ _ z => z) (fun _ _ _ _ _ x z => z.ext x) fun d1 d2 v1 v2 F' H' x g' r1 r2 z => ?_
  cases e : g d1 d2 with
  | ok d =>
    rw [e] at z
    refine hs F' H' d1 d2 v1 v2 d _ g'.sub r1 r2 e fun v hv => ?_
    cases e3 : asB d with
    | ok b =>
      have z' : TPost X.K X.mg W F' H' σ Q (asB d) := z
      rw [e3] at z'
      have e4 := asB_ok e3
      subst e4
      exact ⟨b, held_bl.mp hv, z' F' H' (.refl g'.sub)⟩
    | ex c ns ds => exact (asB_ex e3).elim
    | no =>
      have z' : TPost X.K X.mg W F' H' σ Q (asB d) := z
      rw [e3] at z'
      exact z'.elim
  | ex c ns ds => exact (hn d1 d2 c ns ds e).elim
  | no => rw [e] at z; exact z.elim
/-- a bool as a test -/
theorem mt_val (ha : MV X W e f) (he : ∀ whole, isTrue e X.env whole = (do let v ← whole; standAt e.pos; holding [v] (truthy v)) := by intro _; rfl) : MT X W e (toT f) := by
  refine pt_imp (pt_val ha he) fun σ H Q ⟨F, ρ, gd, q⟩ => ?_
  show tV X.K X.mg W f σ H fun x H1 => ∃ c, x = .bl c ∧ Q c H1
  refine tV_then (P := fun F H => TPost X.K X.mg W F H σ Q) gd q (fun _ _ _ z => z) (fun z => z) (fun F' H' r x z => z.ext x) fun d v F' H' _ x g' r z => ?_
  cases e3 : asB d with
  | ok b =>
    rw [e3] at z
    have e4 := asB_ok e3
    subst e4
    exact ⟨b, held_bl.mp r, z F' H' (.refl g'.sub)⟩
  | ex c ns ds => exact (asB_ex e3).elim
  | no => rw [e3] at z; exact z.elim
variable {s t : Rho → R Bool} {rest : List Expr}
theorem tT_then {f : Rho → R Bool} {β : Type} {k : Bool → R β} {P : Hp → Hp → R β → Prop} {Q : Bool → Hp → Prop} {K : PySem.W.Frag} {mg : Str → Option Value} {F H : Hp} {ρ : Rho} {σ : SS} (g : GoodM K mg F H ρ σ) (hp : P F H ((f ρ).bind k))
    (px : ∀ c ns ds, P F H (.ex c ns ds) → XPost K mg W F H σ c ns ds) (pn : ¬ P F H .no) (pe : ∀ F' H' r, Ext F H F' H' → P F H r → P F' H' r)
    (h : ∀ d F' H', f ρ = .ok d → Ext F H F' H' → GoodM K mg F' H' ρ σ → P F' H' (k d) → Q d H') : tT K mg W f σ H Q := by
  refine ⟨F, ρ, g, ?_⟩
  cases e : f ρ with
  | ok d => exact fun F' H' x => h d F' H' e x (g.ext x) (pe F' H' _ x (by rw [e] at hp; exact hp))
  | ex c ns ds => exact px c ns ds (by rw [e] at hp; exact hp)
  | no => exact pn (by rw [e] at hp; exact hp)
theorem mw_and1 (ha : MT X W a s) : MW X W (.BoolOp .And [a] pos) s := pw_and1 ha
theorem mw_or1 (ha : MT X W a s) : MW X W (.BoolOp .Or [a] pos) s := pw_or1 ha
theorem mw_and (ha : MT X W a s) (hb : MW X W (.BoolOp .And (b :: rest) pos) t) : MW X W (.BoolOp .And (a :: b :: rest) pos) (andT s t) := by
  refine pw_imp (pw_and ha hb) fun σ H Q ⟨F, ρ, gd, q⟩ => ?_
  refine tT_then (P := fun F H => TPost X.K X.mg W F H σ Q) gd q (fun _ _ _ z => z) (fun z => z) (fun F' H' r x z => z.ext x) fun c F' H' _ x g' z => ?_
  cases c with
  | true => rw [if_pos rfl]; exact ⟨F', ρ, g', z⟩
  | false => rw [if_neg Bool.false_ne_true]; exact z F' H' (.refl g'.sub)
theorem mw_or (ha : MT X W a s) (hb : MW X W (.BoolOp .Or (b :: rest) pos) t) : MW X W (.BoolOp .Or (a :: b :: rest) pos) (orT s t) := by
  refine pw_imp (pw_or ha hb) fun σ H Q ⟨F, ρ, gd, q⟩ => ?_
  refine tT_then (P := fun F H => TPost X.K X.mg W F H σ Q) gd q (fun _ _ _ z => z) (fun z => z) (fun F' H' r x z => z.ext x) fun c F' H' _ x g' z => ?_
  cases c with
  | true => rw [if_pos rfl]; exact z F' H' (.refl g'.sub)
  | false => rw [if_neg Bool.false_ne_true]; exact ⟨F', ρ, g', z⟩
theorem mt_w (h : MW X W a s) : MT X W a s := PW.pt h
theorem mt_not (ha : MT X W a s) : MT X W (.UnaryOp .Not a pos) (notT s) := by
  refine pt_imp (pt_not ha) fun σ H Q ⟨F, ρ, gd, q⟩ => ?_
  refine tT_then (P := fun F H => TPost X.K X.mg W F H σ Q) gd q (fun _ _ _ z => z) (fun z => z) (fun F' H' r x z => z.ext x) fun c F' H' _ x g' z => ?_
  exact z F' H' (.refl g'.sub)
/-- and, or, not as values: bools -/
theorem bl_then {f : Rho → R D} {β : Type} {k : Bool → R β} {P : Hp → Hp → R β → Prop} {Q : Bool → Hp → Prop} {K : PySem.W.Frag} {mg : Str → Option Value} {F H : Hp} {ρ : Rho} {σ : SS} (g : GoodM K mg F H ρ σ) (hp : P F H ((toT f ρ).bind k))
    (px : ∀ c ns ds, P F H (.ex c ns ds) → XPost K mg W F H σ c ns ds) (pn : ¬ P F H .no) (pe : ∀ F' H' r, Ext F H F' H' → P F H r → P F' H' r)
    (h : ∀ d F' H', Ext F H F' H' → GoodM K mg F' H' ρ σ → P F' H' (k d) → Q d H') : tV K mg W f σ H fun x H1 => ∃ c, x = .bl c ∧ Q c H1 := by
  refine ⟨F, ρ, g, ?_⟩
  unfold toT at hp
  cases e : f ρ with
  | ok d =>
    rw [e] at hp
    intro v F' H' x r
    cases e3 : asB d with
    | ok b =>
      rw [R.bind_ok, e3] at hp
      have e4 := asB_ok e3
      subst e4
      exact ⟨b, held_bl.mp r, h b F' H' x (g.ext x) (pe F' H' _ x hp)⟩
    | ex c ns ds => exact (asB_ex e3).elim
    | no => rw [R.bind_ok, e3] at hp; exact (pn hp).elim
  | ex c ns ds => exact px c ns ds (by rw [e] at hp; exact hp)
  | no => exact pn (by rw [e] at hp; exact hp)
@[simp] def andV (f h : Rho → R D) : Rho → R D := fun ρ => (toT f ρ).bind fun b => if b then h ρ else .ok (.bl false)
@[simp] def orV (f h : Rho → R D) : Rho → R D := fun ρ => (toT f ρ).bind fun b => if b then .ok (.bl true) else h ρ
@[simp] def notV (f : Rho → R D) : Rho → R D := fun ρ => (toT f ρ).bind fun b => .ok (.bl (!b))
theorem mv_one {op} (ha : MV X W a f) : MV X W (.BoolOp op [a] pos) f := pe_one ha
theorem mv_and (ha : MV X W a f) (hb : MV X W (.BoolOp .And (b :: rest) pos) h) : MV X W (.BoolOp .And (a :: b :: rest) pos) (andV f h) := by
  refine pe_imp (pe_and ha hb) fun σ H Q ⟨F, ρ, gd, q⟩ => ?_
  refine bl_then (P := fun F H => BPost X.K X.mg W F H σ Q) gd q (fun _ _ _ z => z) (fun z => z) (fun F' H' r x z => z.ext x) fun c F' H' x g' z => ?_
  cases c with
  | true => rw [if_pos rfl]; exact ⟨F', ρ, g', z⟩
  | false => rw [if_neg Bool.false_ne_true]; exact z _ F' H' (.refl g'.sub) (held_bl.mpr rfl)
theorem mv_or (ha : MV X W a f) (hb : MV X W (.BoolOp .Or (b :: rest) pos) h) : MV X W (.BoolOp .Or (a :: b :: rest) pos) (orV f h) := by
  refine pe_imp (pe_or ha hb) fun σ H Q ⟨F, ρ, gd, q⟩ => ?_
  refine bl_then (P := fun F H => BPost X.K X.mg W F H σ Q) gd q (fun _ _ _ z => z) (fun z => z) (fun F' H' r x z => z.ext x) fun c F' H' x g' z => ?_
  cases c with
  | true => rw [if_pos rfl]; exact z _ F' H' (.refl g'.sub) (held_bl.mpr rfl)
  | false => rw [if_neg Bool.false_ne_true]; exact ⟨F', ρ, g', z⟩
theorem mv_not (ha : MV X W a f) : MV X W (.UnaryOp .Not a pos) (notV f) := by
  refine pe_imp (pe_not ha) fun σ H Q ⟨F, ρ, gd, q⟩ => ?_
  refine bl_then (P := fun F H => BPost X.K X.mg W F H σ Q) gd q (fun _ _ _ z => z) (fun z => z) (fun F' H' r x z => z.ext x) fun c F' H' x g' z => ?_
  exact z _ F' H' (.refl g'.sub) (held_bl.mpr rfl)
theorem mv_if {c : Expr} (hc : MT X W c s) (ha : MV X W a f) (hb : MV X W b h) : MV X W (.IfExp c a b pos) (iteM s f h) := by
  refine pe_imp (pe_ifExp hc ha hb) fun σ H Q ⟨F, ρ, gd, q⟩ => ?_
  refine tT_then (P := fun F H => BPost X.K X.mg W F H σ Q) gd q (fun _ _ _ z => z) (fun z => z) (fun F' H' r x z => z.ext x) fun c F' H' _ x g' z => ?_
  cases c with
  | true => rw [if_pos rfl]; exact ⟨F', ρ, g', z⟩
  | false => rw [if_neg Bool.false_ne_true]; exact ⟨F', ρ, g', z⟩
theorem me_if {c : Expr} (hc : MT X W c s) (ha : ME X W a m) (hb : ME X W b n) : ME X W (.IfExp c a b pos) (iteM s m n) := by
  refine pe_imp (pe_ifExp hc ha hb) fun σ H Q ⟨F, ρ, gd, q⟩ => ?_
  refine tT_then (P := fun F H => EPost X.K X.mg W F H σ Q) gd q (fun _ _ _ z => z) (fun z => z) (fun F' H' r x z => z.ext x) fun c F' H' _ x g' z => ?_
  cases c with
  | true => rw [if_pos rfl]; exact ⟨F', ρ, g', z⟩
  | false => rw [if_neg Bool.false_ne_true]; exact ⟨F', ρ, g', z⟩

/-! ### arguments -/
theorem ma_nil : MA X W [] nilA := pa_imp pa_nil fun σ H Q ⟨F, ρ, g, q⟩ => q [] F H (.refl g.sub) (reps_nil.mpr rfl)
theorem ml_nil : ML X W [] nilA := pa_imp pa_nil fun σ H Q ⟨F, ρ, g, q⟩ => q [] F H (.refl g.sub) rfl
/-- what is new is frozen -/
theorem freeze_res {K : PySem.W.Frag} {mg : Str → Option Value} {F H F' H' : Hp} {s : Sl} {v : V} (x : Ext F H F' H') (r : Res K mg H F' H' s v) : ∃ d F2, slD s = .ok d ∧ Ext F H F2 H' ∧ Rep K mg F2 d v := by
  cases s with
  | fz d => exact ⟨d, F', rfl, x, r⟩
  | un => exact r.elim
  | io _ _ _ => exact r.elim
  | ow d =>
    obtain ⟨p, e, n, m, o⟩ := r
    obtain ⟨u, h1, h2, h3, h4⟩ := o.freeze x.sub m
    refine ⟨d, upd F' p u, rfl, ⟨h3, x.keep, fun a w q => h4 a w (x.frz a w q), fun a w q => ?_⟩, e ▸ h2⟩
    by_cases z : a = p
    · subst z; exact .inr n
    · rw [upd_ne z] at q; exact x.new a w q
def toA (f : Rho → R Sl) : Rho → R D := toV f
theorem ma_cons {es : List Expr} {fs : Rho → R (List D)} (he : ME X W e m) (hs : MA X W es fs) (hst : starEach (e :: es) X.env = (false, eval e X.env) :: starEach es X.env := by rfl) : MA X W (e :: es) (consA (toV m) fs) := by
  refine pa_imp (pa_cons he hs hst) fun σ H Q ⟨F, ρ, g, q⟩ => ?_
  show tM X.K X.mg W m σ H fun x H1 => tA X.K X.mg W fs σ H1 fun xs H2 => Q (x :: xs) H2
  have q' : APost X.K X.mg W F H σ Q ((m ρ).bind fun s => (slD s).bind fun d => (fs ρ).bind fun ds => .ok (d :: ds)) := by
    unfold consA toV at q
    cases e1 : m ρ <;> rw [e1] at q <;> exact q
  refine ⟨F, ρ, g, ?_⟩
  cases e1 : m ρ with
  | ex c ns ds => rw [e1] at q'; exact q'
  | no => rw [e1] at q'; exact q'
  | ok s =>
    rw [e1] at q'
    intro v F' H' x r
    obtain ⟨d, F2, e2, x2, r2⟩ := freeze_res x r
    have q2 : APost X.K X.mg W F H σ Q ((slD s).bind fun d => (fs ρ).bind fun ds => .ok (d :: ds)) := q'
    rw [e2] at q2
    have q3 : APost X.K X.mg W F H σ Q ((fs ρ).bind fun ds => .ok (d :: ds)) := q2
    refine ⟨F2, ρ, g.ext x2, ?_⟩
    cases e3 : fs ρ with
    | ex c ns ds => rw [e3] at q3; exact XPost.ext x2 q3
    | no => rw [e3] at q3; exact q3
    | ok ds =>
      rw [e3] at q3
      intro vs F3 H3 x3 r3
      exact q3 (v :: vs) F3 H3 (x2.trans x3) (reps_cons.mpr ⟨v, vs, rfl, r2.mono x3.frz, r3⟩)
theorem ml_cons {es : List Expr} {fs : Rho → R (List D)} (he : MV X W e f) (hs : ML X W es fs) (hst : starEach (e :: es) X.env = (false, eval e X.env) :: starEach es X.env := by rfl) : ML X W (e :: es) (consA f fs) := by
  refine pa_imp (pa_cons he hs hst) fun σ H Q ⟨F, ρ, g, q⟩ => ?_
  show tV X.K X.mg W f σ H fun x H1 => tL X.K X.mg W fs σ H1 fun xs H2 => Q (x :: xs) H2
  refine tV_then (P := fun F H => LPost X.K X.mg W F H σ Q) g q (fun _ _ _ z => z) (fun z => z) (fun F' H' r x z => z.ext x) fun d v F' H' _ x g' r z => ?_
  refine ⟨F', ρ, g', ?_⟩
  cases e3 : fs ρ with
  | ex c ns ds => rw [e3] at z; exact z
  | no => rw [e3] at z; exact z
  | ok ds =>
    rw [e3] at z
    intro vs F3 H3 x3 r3
    exact z (v :: vs) F3 H3 x3 ⟨v, vs, rfl, r.ext x3, r3⟩
end
end Mp

namespace Mp
open PySem PySem.Spec PyProof.Rows L2

inductive Out where
  | nx (ρ : Rho) | bk (ρ : Rho) | ct (ρ : Rho) | rt (s : Sl) | ex (c : Str) (ns : List Str) (ds : List D) (ρ : Rho) | no

structure Stt (K : PySem.W.Frag) (mg : Str → Option Value) (F0 H0 F H : Hp) (ρ : Rho) (σ : SS) : Prop where
  good : GoodM K mg F H ρ σ
  ext : Ext F0 H0 F H
  new : ∀ (i : Nat) (d : D) (p : Addr), ρ[i]? = some (.ow d) → σ[i]? = some (some (.ref p)) → H0 p = none
/-- what is frozen stands as it was -/
def Step (F H F' H' : Hp) : Prop := ∀ a u, F a = some u → F' a = some u ∧ H' a = H a
theorem Step.refl {F H : Hp} : Step F H F H := fun _ _ e => ⟨e, rfl⟩
theorem Step.trans {F H F1 H1 F2 H2 : Hp} (a : Step F H F1 H1) (b : Step F1 H1 F2 H2) : Step F H F2 H2 := fun c u e => by
  obtain ⟨h1, h2⟩ := a c u e
  obtain ⟨h3, h4⟩ := b c u h1
  exact ⟨h3, h4.trans h2⟩
theorem Ext.step {F H F' H' : Hp} (s : Sub F H) (x : Ext F H F' H') : Step F H F' H' := fun a u e => by
  refine ⟨x.frz a u e, ?_⟩
  rcases s.rd a u e with q | ⟨o, q⟩ <;> rw [q, x.keep _ _ q]
section
variable {K : PySem.W.Frag} {mg : Str → Option Value} {W : WX} {F0 H0 F H F' H' : Hp} {ρ : Rho} {σ : SS}
theorem Stt.grow (s : Stt K mg F0 H0 F H ρ σ) (x : Ext F H F' H') : Stt K mg F0 H0 F' H' ρ σ := ⟨s.good.ext x, s.ext.trans x, s.new⟩
/-- a slot is stored -/
theorem Stt.setFz (s : Stt K mg F0 H0 F H ρ σ) {d : D} {v : V} (i : Nat) (r : Rep K mg F d v) : Stt K mg F0 H0 F H (ρ.set i (.fz d)) (σ.set i (some v)) := by
  have hl := s.good.len
  have old : ∀ {j : Nat} {t : Sl}, (ρ.set i (.fz d))[j]? = some t → t ≠ .fz d ∨ j ≠ i → ρ[j]? = some t ∧ (σ.set i (some v))[j]? = σ[j]? := fun {j t} e h => by
    by_cases hj : j = i
    · subst hj
      rcases h with h | h
      · by_cases hlt : j < ρ.length
        · rw [List.getElem?_set_self hlt] at e; cases e; exact (h rfl).elim
        · rw [List.getElem?_eq_none (by simpa using hlt)] at e; cases e
      · exact (h rfl).elim
    · rw [List.getElem?_set_ne (Ne.symm hj)] at e
      exact ⟨e, List.getElem?_set_ne (Ne.symm hj)⟩
  refine ⟨⟨s.good.sub, by simpa using hl, fun j e h => ?_, fun j e h => ?_, fun j k e e' p h1 h2 h3 h4 => ?_⟩, s.ext, fun j e p h1 h2 => ?_⟩
  · by_cases hj : j = i
    · subst hj
      by_cases hlt : j < ρ.length
      · rw [List.getElem?_set_self hlt] at h; cases h
        exact ⟨v, List.getElem?_set_self (by omega), r⟩
      · rw [List.getElem?_eq_none (by simpa using hlt)] at h; cases h
    · obtain ⟨h1, h2⟩ := old h (.inr hj)
      rw [h2]; exact s.good.fz j e h1
  · obtain ⟨h1, h2⟩ := old h (.inl (fun z => nomatch z))
    rw [h2]; exact s.good.ow j e h1
  · obtain ⟨a1, a2⟩ := old h1 (.inl (fun z => nomatch z))
    obtain ⟨b1, b2⟩ := old h2 (.inl (fun z => nomatch z))
    rw [a2] at h3; rw [b2] at h4
    exact s.good.inj j k e e' p a1 b1 h3 h4
  · obtain ⟨a1, a2⟩ := old h1 (.inl (fun z => nomatch z))
    rw [a2] at h2
    exact s.new j e p a1 h2
theorem Stt.setOw (s : Stt K mg F0 H0 F H ρ σ) {d : D} {p : Addr} (i : Nat) (n0 : H0 p = none) (np : F p = none) (o : OwnAt K mg F H p d) (ne : ∀ (j : Nat) (e : D) (q : Addr), ρ[j]? = some (.ow e) → σ[j]? = some (some (.ref q)) → q ≠ p) :
    Stt K mg F0 H0 F H (ρ.set i (.ow d)) (σ.set i (some (.ref p))) := by
  have hl := s.good.len
  have look : ∀ {j : Nat} {t : Sl}, (ρ.set i (.ow d))[j]? = some t → (j = i ∧ t = .ow d ∧ (σ.set i (some (.ref p)))[j]? = some (some (.ref p))) ∨ (j ≠ i ∧ ρ[j]? = some t ∧ (σ.set i (some (.ref p)))[j]? = σ[j]?) := fun {j t} e => by
    by_cases hj : j = i
    · subst hj
      by_cases hlt : j < ρ.length
      · rw [List.getElem?_set_self hlt] at e; cases e; exact .inl ⟨rfl, rfl, List.getElem?_set_self (by omega)⟩
      · rw [List.getElem?_eq_none (by simpa using hlt)] at e; cases e
    · rw [List.getElem?_set_ne (Ne.symm hj)] at e
      exact .inr ⟨hj, e, List.getElem?_set_ne (Ne.symm hj)⟩
  refine ⟨⟨s.good.sub, by simpa using hl, fun j e h => ?_, fun j e h => ?_, fun j k e e' q h1 h2 h3 h4 => ?_⟩, s.ext, fun j e q h1 h2 => ?_⟩
  · rcases look h with ⟨_, z, _⟩ | ⟨_, h1, h2⟩
    · cases z
    · rw [h2]; exact s.good.fz j e h1
  · rcases look h with ⟨_, z, h2⟩ | ⟨_, h1, h2⟩
    · cases z; exact ⟨p, h2, np, o⟩
    · rw [h2]; exact s.good.ow j e h1
  · rcases look h1 with ⟨j1, _, j2⟩ | ⟨j1, a1, a2⟩
    · rcases look h2 with ⟨k1, _, k2⟩ | ⟨k1, b1, b2⟩
      · rw [j1, k1]
      · rw [j2] at h3; cases h3
        rw [b2] at h4
        exact (ne k e' p b1 h4 rfl).elim
    · rw [a2] at h3
      rcases look h2 with ⟨k1, _, k2⟩ | ⟨k1, b1, b2⟩
      · rw [k2] at h4; cases h4
        exact (ne j e p a1 h3 rfl).elim
      · rw [b2] at h4
        exact s.good.inj j k e e' q a1 b1 h3 h4
  · rcases look h1 with ⟨j1, _, j2⟩ | ⟨j1, a1, a2⟩
    · rw [j2] at h2; cases h2; exact n0
    · rw [a2] at h2; exact s.new j e q a1 h2
/-- an owned object is written -/
theorem Stt.write (s : Stt K mg F0 H0 F H ρ σ) {d d' : D} {p : Addr} {u : HO} {i : Nat} (h1 : ρ[i]? = some (.ow d)) (h2 : σ[i]? = some (some (.ref p))) (o : OwnAt K mg F (upd H p u) p d') (nt : ∀ vs, u ≠ .tup vs) :
    Stt K mg F0 H0 F (upd H p u) (ρ.set i (.ow d')) σ ∧ Step F H F (upd H p u) := by
  have np : F p = none := by
    obtain ⟨q, e, n, _⟩ := s.good.ow i d h1
    rw [h2] at e; cases e; exact n
  have n0 := s.new i d p h1 h2
  have hlt : i < ρ.length := (List.getElem?_eq_some_iff.mp h1).1
  have neF : ∀ a w, F a = some w → a ≠ p := fun a w e => ne_of_none e np
  have other : ∀ {q : Addr} {e : D}, q ≠ p → OwnAt K mg F H q e → OwnAt K mg F (upd H p u) q e := fun {q e} hq h => by
    cases e with
    | lst ds => obtain ⟨vs, a, b⟩ := h; exact ⟨vs, by rw [upd_ne hq]; exact a, b⟩
    | dk ks ds => obtain ⟨vs, a, b⟩ := h; exact ⟨vs, by rw [upd_ne hq]; exact a, b⟩
    | dt ks ds => obtain ⟨vs, a, b⟩ := h; exact ⟨vs, by rw [upd_ne hq]; exact a, b⟩
    | obj c ns ds => obtain ⟨C, dx, fs, g, a, b⟩ := h; exact ⟨C, dx, fs, g, by rw [upd_ne hq]; exact a, b⟩
    | cel r is => exact ⟨h.1, by rw [upd_ne hq]; exact h.2⟩
    | _ => exact h.elim
  have look : ∀ {j : Nat} {t : Sl}, (ρ.set i (.ow d'))[j]? = some t → (j = i ∧ t = .ow d') ∨ (j ≠ i ∧ ρ[j]? = some t) := fun {j t} e => by
    by_cases hj : j = i
    · subst hj
      rw [List.getElem?_set_self hlt] at e; cases e; exact .inl ⟨rfl, rfl⟩
    · rw [List.getElem?_set_ne (Ne.symm hj)] at e
      exact .inr ⟨hj, e⟩
  have own : ∀ {j : Nat} {e : D}, (ρ.set i (.ow d'))[j]? = some (.ow e) → ∃ e', ρ[j]? = some (.ow e') := fun {j e} h => by
    rcases look h with ⟨rfl, _⟩ | ⟨_, a⟩
    · exact ⟨d, h1⟩
    · exact ⟨e, a⟩
  have rT : ∀ a vs, F a = some (.tup vs) → upd H p u a = some (.tup vs) := fun a vs e => by rw [upd_ne (neF a _ e)]; exact s.good.sub.rdT a vs e
  refine ⟨⟨⟨⟨fun a w e => ?_, fun a vs e => ?_, rT⟩, by simpa using s.good.len, fun j e h => ?_, fun j e h => ?_, fun j k e e' q a b c1 c2 => ?_⟩, ⟨⟨fun a w e => ?_, fun a vs e => ?_, rT⟩, fun a o e => ?_, s.ext.frz, s.ext.new⟩, fun j e q a b => ?_⟩, fun a w e => ⟨e, upd_ne (neF a w e)⟩⟩
  · rcases s.good.sub.rd a w e with z | ⟨o, z⟩
    · exact .inl (by rw [upd_ne (neF a w e)]; exact z)
    · exact .inr ⟨o, by rw [upd_ne (neF a w e)]; exact z⟩
  · by_cases z : a = p
    · subst z; rw [upd_same] at e; cases e; exact (nt _ rfl).elim
    · rw [upd_ne z] at e; exact s.good.sub.tup a vs e
  · rcases look h with ⟨_, z⟩ | ⟨_, a⟩
    · cases z
    · exact s.good.fz j e a
  · rcases look h with ⟨rfl, z⟩ | ⟨hj, a⟩
    · cases z; exact ⟨p, h2, np, o⟩
    · obtain ⟨q, e1, n, z⟩ := s.good.ow j e a
      refine ⟨q, e1, n, other (fun z => ?_) z⟩
      subst z
      exact hj (s.good.inj j i e d q a h1 e1 h2)
  · obtain ⟨e1, a1⟩ := own a
    obtain ⟨e2, b1⟩ := own b
    exact s.good.inj j k e1 e2 q a1 b1 c1 c2
  · rcases s.good.sub.rd a w e with z | ⟨o, z⟩
    · exact .inl (by rw [upd_ne (neF a w e)]; exact z)
    · exact .inr ⟨o, by rw [upd_ne (neF a w e)]; exact z⟩
  · by_cases z : a = p
    · subst z; rw [upd_same] at e; cases e; exact (nt _ rfl).elim
    · rw [upd_ne z] at e; exact s.good.sub.tup a vs e
  · rw [upd_ne (ne_of_none e n0)]; exact s.ext.keep a o e
  · obtain ⟨e1, a1⟩ := own a
    exact s.new j e1 q a1 b
/-- an owned slot is frozen -/
@[simp] def frzS (i : Nat) (ρ : Rho) : Rho := match ρ[i]? with
  | some (.ow d) => ρ.set i (.fz d)
  | _ => ρ
theorem Stt.freeze (s : Stt K mg F0 H0 F H ρ σ) (i : Nat) : ∃ F', Stt K mg F0 H0 F' H (frzS i ρ) σ ∧ Step F H F' H := by
  unfold frzS
  split
  · next d h1 =>
    obtain ⟨p, h2, np, o⟩ := s.good.ow i d h1
    have n0 := s.new i d p h1 h2
    obtain ⟨u, hp, r, sb, kp⟩ := o.freeze s.good.sub np
    have hlt : i < ρ.length := (List.getElem?_eq_some_iff.mp h1).1
    have look : ∀ {j : Nat} {t : Sl}, (ρ.set i (.fz d))[j]? = some t → (j = i ∧ t = .fz d) ∨ (j ≠ i ∧ ρ[j]? = some t) := fun {j t} e => by
      by_cases hj : j = i
      · subst hj
        rw [List.getElem?_set_self hlt] at e; cases e; exact .inl ⟨rfl, rfl⟩
      · rw [List.getElem?_set_ne (Ne.symm hj)] at e
        exact .inr ⟨hj, e⟩
    have monoOwn : ∀ {q : Addr} {e : D}, OwnAt K mg F H q e → OwnAt K mg (upd F p u) H q e := fun {q e} h => by
      cases e with
      | lst ds => obtain ⟨vs, a, b⟩ := h; exact ⟨vs, a, b.mono kp⟩
      | dk ks ds => obtain ⟨vs, a, a2, b⟩ := h; exact ⟨vs, a, a2, b.mono kp⟩
      | dt ks ds => obtain ⟨vs, a, a2, b⟩ := h; exact ⟨vs, a, a2, b.mono kp⟩
      | obj c ns ds => obtain ⟨C, dx, fs, g, a, a2, b⟩ := h; exact ⟨C, dx, fs, g, a, a2, b.mono kp⟩
      | cel r is => exact h
      | _ => exact h.elim
    refine ⟨upd F p u, ⟨⟨sb, by simpa using s.good.len, fun j e h => ?_, fun j e h => ?_, fun j k e e' q a b c1 c2 => ?_⟩, ⟨sb, s.ext.keep, fun a w e => kp a w (s.ext.frz a w e), fun a w e => ?_⟩, fun j e q a b => ?_⟩, fun a w e => ⟨kp a w e, rfl⟩⟩
    · rcases look h with ⟨rfl, z⟩ | ⟨_, a⟩
      · cases z; exact ⟨_, h2, r⟩
      · obtain ⟨v, e1, e2⟩ := s.good.fz j e a
        exact ⟨v, e1, e2.mono kp⟩
    · rcases look h with ⟨rfl, z⟩ | ⟨hj, a⟩
      · cases z
      · obtain ⟨q, e1, n, z⟩ := s.good.ow j e a
        refine ⟨q, e1, ?_, monoOwn z⟩
        rw [upd_ne (fun z => ?_)]
        · exact n
        · subst z; exact hj (s.good.inj j i e d q a h1 e1 h2)
    · rcases look a with ⟨_, z⟩ | ⟨_, a1⟩
      · cases z
      · rcases look b with ⟨_, z⟩ | ⟨_, b1⟩
        · cases z
        · exact s.good.inj j k e e' q a1 b1 c1 c2
    · by_cases z : a = p
      · subst z; exact .inr n0
      · rw [upd_ne z] at e; exact s.ext.new a w e
    · rcases look a with ⟨_, z⟩ | ⟨_, a1⟩
      · cases z
      · exact s.new j e q a1 b
  · exact ⟨F, s, .refl⟩
end

/-- what is returned; an argument that was written stands beside it -/
def ResR (K : PySem.W.Frag) (mg : Str → Option Value) (H0 F' H' : Hp) : Sl → V → Prop
  | .io d p is, v => Rep K mg F' d v ∧ F' p = none ∧ H' p = some (.lst (is.map V.int))
  | .fz d, v => Res K mg H0 F' H' (.fz d) v
  | .ow d, v => Res K mg H0 F' H' (.ow d) v
  | .un, _ => False
theorem Res.toR {K : PySem.W.Frag} {mg : Str → Option Value} {H0 F' H' : Hp} {s : Sl} {v : V} (r : Res K mg H0 F' H' s v) : ResR K mg H0 F' H' s v := by
  cases s with
  | fz d => exact r
  | ow d => exact r
  | un => exact r
  | io _ _ _ => exact r.elim
section
variable (K : PySem.W.Frag) (mg : Str → Option Value) (W : WX)
def SPost (F0 H0 F H : Hp) (D : Ends) : Out → Prop
  | .nx ρ => ∀ σ F' H', Step F H F' H' → Stt K mg F0 H0 F' H' ρ σ → D.nx σ H'
  | .bk ρ => ∀ σ F' H', Step F H F' H' → Stt K mg F0 H0 F' H' ρ σ → D.bk σ H'
  | .ct ρ => ∀ σ F' H', Step F H F' H' → Stt K mg F0 H0 F' H' ρ σ → D.ct σ H'
  | .rt s => ∀ v F' H', Step F H F' H' → Ext F0 H0 F' H' → ResR K mg H0 F' H' s v → D.rt v H'
  | .ex c ns ds ρ => ∀ cl dx σ F' H', Step F H F' H' → Stt K mg F0 H0 F' H' ρ σ → RepX K mg F' H' c ns ds cl dx → W cl dx σ H'
  | .no => False
def tS (s : Nat → Rho → Out) : TS := fun D σ H => ∃ n F ρ F0 H0, Stt K mg F0 H0 F H ρ σ ∧ SPost K mg W F0 H0 F H D (s n ρ)
end
abbrev MS (X : Cx) (W : WX) (st : Stmt) (s : Nat → Rho → Out) : Prop := PS X st (tS X.K X.mg W s)
abbrev MSs (X : Cx) (W : WX) (st : List Stmt) (s : Nat → Rho → Out) : Prop := PSs X st (tS X.K X.mg W s)
theorem ps_imp {X : Cx} {e : Stmt} {t t' : TS} (h : PS X e t) (i : ∀ D σ H, t' D σ H → t D σ H) : PS X e t' := ⟨fun pins s σ H D I q => h.run pins s σ H D I (i D σ H q)⟩
theorem pss_imp {X : Cx} {e : List Stmt} {t t' : TS} (h : PSs X e t) (i : ∀ D σ H, t' D σ H → t D σ H) : PSs X e t' := ⟨fun pins s σ H D I q => h.run pins s σ H D I (i D σ H q)⟩
theorem SPost.step {K : PySem.W.Frag} {mg : Str → Option Value} {W : WX} {F0 H0 F H F1 H1 : Hp} {D : Ends} (x : Step F H F1 H1) : ∀ {o : Out}, SPost K mg W F0 H0 F H D o → SPost K mg W F0 H0 F1 H1 D o
  | .nx ρ, h => fun σ F' H' s g => h σ F' H' (x.trans s) g
  | .bk ρ, h => fun σ F' H' s g => h σ F' H' (x.trans s) g
  | .ct ρ, h => fun σ F' H' s g => h σ F' H' (x.trans s) g
  | .rt s, h => fun v F' H' s g r => h v F' H' (x.trans s) g r
  | .ex c ns ds ρ, h => fun cl dx σ F' H' s g r => h cl dx σ F' H' (x.trans s) g r
  | .no, h => h

/-! ### the meanings -/
abbrev Sem := Nat → Rho → Out
def rOut {α : Type} (ρ : Rho) (r : R α) (k : α → Out) : Out := match r with
  | .ok a => k a
  | .ex c ns ds => .ex c ns ds ρ
  | .no => .no
@[simp] theorem rOut_ok {α : Type} {ρ : Rho} {a : α} {k : α → Out} : rOut ρ (.ok a) k = k a := rfl
@[simp] theorem rOut_ex {α : Type} {ρ : Rho} {c ns ds} {k : α → Out} : rOut ρ (.ex c ns ds) k = .ex c ns ds ρ := rfl
@[simp] theorem rOut_no {α : Type} {ρ : Rho} {k : α → Out} : rOut ρ .no k = .no := rfl
def oSeq (o : Out) (k : Rho → Out) : Out := match o with
  | .nx ρ => k ρ
  | o => o
@[simp] theorem oSeq_nx {ρ : Rho} {k : Rho → Out} : oSeq (.nx ρ) k = k ρ := rfl
@[simp] theorem oSeq_rt {s : Sl} {k : Rho → Out} : oSeq (.rt s) k = .rt s := rfl
@[simp] theorem oSeq_ex {c ns ds} {ρ : Rho} {k : Rho → Out} : oSeq (.ex c ns ds ρ) k = .ex c ns ds ρ := rfl
@[simp] theorem oSeq_bk {ρ : Rho} {k : Rho → Out} : oSeq (.bk ρ) k = .bk ρ := rfl
@[simp] theorem oSeq_ct {ρ : Rho} {k : Rho → Out} : oSeq (.ct ρ) k = .ct ρ := rfl
@[simp] theorem oSeq_no {k : Rho → Out} : oSeq .no k = .no := rfl
@[simp] def sNil : Sem := fun _ ρ => .nx ρ
@[simp] def sSeq (s t : Sem) : Sem := fun n ρ => oSeq (s n ρ) (t n)
@[simp] def sFrz (i : Nat) (s : Sem) : Sem := fun n ρ => s n (frzS i ρ)
@[simp] def frzL : Sl → Sl
  | .ow d => .fz d
  | s => s
@[simp] def sSet (i : Nat) (f : Rho → R Sl) : Sem := fun _ ρ => rOut ρ (f ρ) fun s => .nx (ρ.set i (frzL s))
@[simp] def sOwn (i : Nat) (f : Rho → R Sl) : Sem := fun _ ρ => rOut ρ (f ρ) fun s => .nx (ρ.set i s)
@[simp] def sRet (f : Rho → R Sl) : Sem := fun _ ρ => rOut ρ (f ρ) .rt
@[simp] def sRetV (i : Nat) : Sem := fun _ ρ => match ρ[i]? with
  | some (.fz d) => .rt (.fz d)
  | some (.ow d) => .rt (.ow d)
  | _ => .no
@[simp] def sRetN : Sem := fun _ _ => .rt (.fz .non)
@[simp] def sDrop (f : Rho → R Sl) : Sem := fun _ ρ => rOut ρ (f ρ) fun _ => .nx ρ
@[simp] def sBrk : Sem := fun _ ρ => .bk ρ
@[simp] def sCnt : Sem := fun _ ρ => .ct ρ
@[simp] def sIf (c : Rho → R Bool) (s t : Sem) : Sem := fun n ρ => rOut ρ (c ρ) fun b => if b then s n ρ else t n ρ
def oLoop (o : Out) (k : Rho → Out) : Out := match o with
  | .nx ρ => k ρ
  | .ct ρ => k ρ
  | .bk ρ => .nx ρ
  | o => o
@[simp] theorem oLoop_nx {ρ : Rho} {k : Rho → Out} : oLoop (.nx ρ) k = k ρ := rfl
@[simp] theorem oLoop_ct {ρ : Rho} {k : Rho → Out} : oLoop (.ct ρ) k = k ρ := rfl
@[simp] theorem oLoop_bk {ρ : Rho} {k : Rho → Out} : oLoop (.bk ρ) k = .nx ρ := rfl
@[simp] theorem oLoop_rt {s : Sl} {k : Rho → Out} : oLoop (.rt s) k = .rt s := rfl
@[simp] theorem oLoop_ex {c ns ds} {ρ : Rho} {k : Rho → Out} : oLoop (.ex c ns ds ρ) k = .ex c ns ds ρ := rfl
@[simp] theorem oLoop_no {k : Rho → Out} : oLoop .no k = .no := rfl
def sWhile (c : Rho → R Bool) (b : Sem) : Sem
  | 0, _ => .no
  | n + 1, ρ => rOut ρ (c ρ) fun k => if k then oLoop (b n ρ) (sWhile c b n) else .nx ρ
def sLoop (g : D → Rho → R Rho) (b : Sem) (n : Nat) : List D → Rho → Out
  | [], ρ => .nx ρ
  | d :: ds, ρ => rOut ρ (g d ρ) fun ρ1 => oLoop (b n ρ1) (sLoop g b n ds)
@[simp] def sFor (it : Rho → R (List D)) (g : D → Rho → R Rho) (b : Sem) : Sem := fun n ρ => rOut ρ (it ρ) fun ds => sLoop g b n ds ρ
@[simp] def gN (i : Nat) : D → Rho → R Rho := fun d ρ => .ok (ρ.set i (.fz d))
@[simp] def sApp (i : Nat) (f : Rho → R Sl) : Sem := fun _ ρ => match ρ[i]? with
  | some (.ow (.lst ds)) => rOut ρ (toV f ρ) fun d => if ds.length < sizeLine then .nx (ρ.set i (.ow (.lst (ds ++ [d])))) else .no
  | _ => .no

section
variable {X : Cx} {W : WX} {st : Stmt} {sts : List Stmt} {s t : Sem} {e : Expr} {m : Rho → R Sl} {f : Rho → R D} {c : Rho → R Bool} {pos : Pos}
theorem mss_nil : MSs X W [] sNil := pss_imp pss_nil fun D σ H ⟨n, F, ρ, F0, H0, g, q⟩ => q σ F H .refl g
theorem mss_one (h : MS X W st s) : MSs X W [st] s := pss_one h
theorem mss_cons (h1 : MS X W st s) (h2 : MSs X W sts t) : MSs X W (st :: sts) (sSeq s t) := by
  refine pss_imp (pss_cons h1 h2) fun D σ H ⟨n, F, ρ, F0, H0, g, q⟩ => ?_
  refine ⟨n, F, ρ, F0, H0, g, ?_⟩
  unfold sSeq at q
  cases e : s n ρ with
  | nx ρ' => rw [e] at q; exact fun σ' F' H' x g' => ⟨n, F', ρ', F0, H0, g', q.step x⟩
  | bk ρ' => rw [e] at q; exact q
  | ct ρ' => rw [e] at q; exact q
  | rt v => rw [e] at q; exact q
  | ex c ns ds ρ' => rw [e] at q; exact q
  | no => rw [e] at q; exact q
theorem mss_frz (i : Nat) (h : MSs X W sts s) : MSs X W sts (sFrz i s) := by
  refine pss_imp h fun D σ H ⟨n, F, ρ, F0, H0, g, q⟩ => ?_
  obtain ⟨F', g', x⟩ := g.freeze i
  exact ⟨n, F', _, F0, H0, g', q.step x⟩
/-- an expression ahead of a statement's end -/
theorem tM_out {K : PySem.W.Frag} {mg : Str → Option Value} {F0 H0 F H : Hp} {ρ : Rho} {σ : SS} {D : Ends} {k : Sl → Out} {Q : VK} (g : Stt K mg F0 H0 F H ρ σ) (q : SPost K mg W F0 H0 F H D (rOut ρ (m ρ) k))
    (h : ∀ s v F' H', m ρ = .ok s → Ext F H F' H' → Stt K mg F0 H0 F' H' ρ σ → Res K mg H F' H' s v → SPost K mg W F0 H0 F' H' D (k s) → Q v H') : tM K mg W m σ H Q := by
  refine ⟨F, ρ, g.good, ?_⟩
  cases e : m ρ with
  | ok s =>
    rw [e] at q
    exact fun v F' H' x r => h s v F' H' e x (g.grow x) r (q.step (x.step g.good.sub))
  | ex c ns ds =>
    rw [e] at q
    exact fun cl dx F' H' x r => q cl dx σ F' H' (x.step g.good.sub) (g.grow x) r
  | no => rw [e] at q; exact q
theorem tV_out {K : PySem.W.Frag} {mg : Str → Option Value} {F0 H0 F H : Hp} {ρ : Rho} {σ : SS} {D : Ends} {k : Mp.D → Out} {Q : VK} (g : Stt K mg F0 H0 F H ρ σ) (q : SPost K mg W F0 H0 F H D (rOut ρ (f ρ) k))
    (h : ∀ s v F' H', f ρ = .ok s → Ext F H F' H' → Stt K mg F0 H0 F' H' ρ σ → Held K mg F' H' s v → SPost K mg W F0 H0 F' H' D (k s) → Q v H') : tV K mg W f σ H Q := by
  refine ⟨F, ρ, g.good, ?_⟩
  cases e : f ρ with
  | ok s =>
    rw [e] at q
    exact fun v F' H' x r => h s v F' H' e x (g.grow x) r (q.step (x.step g.good.sub))
  | ex c ns ds =>
    rw [e] at q
    exact fun cl dx F' H' x r => q cl dx σ F' H' (x.step g.good.sub) (g.grow x) r
  | no => rw [e] at q; exact q
theorem tT_out {K : PySem.W.Frag} {mg : Str → Option Value} {F0 H0 F H : Hp} {ρ : Rho} {σ : SS} {D : Ends} {k : Bool → Out} {Q : Bool → Hp → Prop} (g : Stt K mg F0 H0 F H ρ σ) (q : SPost K mg W F0 H0 F H D (rOut ρ (c ρ) k))
    (h : ∀ b F' H', c ρ = .ok b → Ext F H F' H' → Stt K mg F0 H0 F' H' ρ σ → SPost K mg W F0 H0 F' H' D (k b) → Q b H') : tT K mg W c σ H Q := by
  refine ⟨F, ρ, g.good, ?_⟩
  cases e : c ρ with
  | ok s =>
    rw [e] at q
    exact fun F' H' x => h s F' H' e x (g.grow x) (q.step (x.step g.good.sub))
  | ex c ns ds =>
    rw [e] at q
    exact fun cl dx F' H' x r => q cl dx σ F' H' (x.step g.good.sub) (g.grow x) r
  | no => rw [e] at q; exact q
theorem res_ext0 {K : PySem.W.Frag} {mg : Str → Option Value} {H0 H F' H' : Hp} {s : Sl} {v : V} (h : ∀ p, H p = none → H0 p = none) : Res K mg H F' H' s v → Res K mg H0 F' H' s v := by
  cases s with
  | fz d => exact fun r => r
  | un => exact fun r => r
  | io _ _ _ => exact fun r => r
  | ow d => exact fun ⟨p, e, n, m, o⟩ => ⟨p, e, h p n, m, o⟩
/-- a result is stored, new or frozen -/
theorem Stt.store {K : PySem.W.Frag} {mg : Str → Option Value} {F0 H0 F H F' H' : Hp} {ρ : Rho} {σ : SS} {s : Sl} {v : V} (g0 : Stt K mg F0 H0 F H ρ σ) (x : Ext F H F' H') (r : Res K mg H F' H' s v) (i : Nat) : Stt K mg F0 H0 F' H' (ρ.set i s) (σ.set i (some v)) := by
  cases s with
  | fz d => exact (g0.grow x).setFz i r
  | un => exact r.elim
  | io _ _ _ => exact r.elim
  | ow d =>
    obtain ⟨p, e, n, m, o⟩ := r
    subst e
    refine (g0.grow x).setOw i (g0.ext.none n) m o fun j e q h1 h2 z => ?_
    subst z
    obtain ⟨p', h3, _, o'⟩ := g0.good.ow j e h1
    rw [h2] at h3; cases h3
    obtain ⟨u, hu⟩ := o'.there
    rw [n] at hu; cases hu
theorem ms_own (i : Nat) {x : Str} {pos' : Pos} (hN : X.N.Nodup) (he : ME X W e m) (hi : X.N[i]? = some x := by rfl) (hx : Loc X.env.scope x := by first | exact .inl rfl | exact .inr rfl) (hs : swapsWith e (some (.Name x pos')) pos.line X.env = pure false := by rfl) (hf : X.fn x = true ∨ X.env.scope.names.lookup x = some .local := by first | exact .inl rfl | exact .inr rfl | assumption) :
    MS X W (.Assign [.Name x pos'] e pos) (sOwn i m) := by
  refine ps_imp (ps_set hN hi hx he hs hf) fun D σ H ⟨n, F, ρ, F0, H0, g, q⟩ => ?_
  refine tM_out g q fun s v F' H' _ xx g' r z => ?_
  exact z _ F' H' .refl (g.store xx r i)
theorem freeze_any {K : PySem.W.Frag} {mg : Str → Option Value} {F H F' H' : Hp} {s : Sl} {v : V} (x : Ext F H F' H') (r : Res K mg H F' H' s v) : ∃ F2, Ext F H F2 H' ∧ Res K mg H F2 H' (frzL s) v ∧ Step F' H' F2 H' := by
  cases s with
  | fz d => exact ⟨F', x, r, .refl⟩
  | un => exact r.elim
  | io _ _ _ => exact r.elim
  | ow d =>
    obtain ⟨p, e, n, m, o⟩ := r
    obtain ⟨u, h1, h2, h3, h4⟩ := o.freeze x.sub m
    refine ⟨upd F' p u, ⟨h3, x.keep, fun a w q => h4 a w (x.frz a w q), fun a w q => ?_⟩, e ▸ h2, fun a w q => ⟨h4 a w q, rfl⟩⟩
    by_cases z : a = p
    · subst z; exact .inr n
    · rw [upd_ne z] at q; exact x.new a w q
theorem ms_set (i : Nat) {x : Str} {pos' : Pos} (hN : X.N.Nodup) (he : ME X W e m) (hi : X.N[i]? = some x := by rfl) (hx : Loc X.env.scope x := by first | exact .inl rfl | exact .inr rfl) (hs : swapsWith e (some (.Name x pos')) pos.line X.env = pure false := by rfl) (hf : X.fn x = true ∨ X.env.scope.names.lookup x = some .local := by first | exact .inl rfl | exact .inr rfl | assumption) :
    MS X W (.Assign [.Name x pos'] e pos) (sSet i m) := by
  refine ps_imp (ps_set hN hi hx he hs hf) fun D σ H ⟨n, F, ρ, F0, H0, g, q⟩ => ?_
  refine tM_out g q fun s v F' H' _ xx g' r z => ?_
  obtain ⟨F2, x2, r2, st⟩ := freeze_any xx r
  exact z _ F2 H' st (g.store x2 r2 i)
theorem ms_ret (he : ME X W e m) : MS X W (.Return (some e) pos) (sRet m) := by
  refine ps_imp (ps_ret he) fun D σ H ⟨n, F, ρ, F0, H0, g, q⟩ => ?_
  refine tM_out g q fun s v F' H' _ xx g' r z => ?_
  exact z v F' H' .refl g'.ext (res_ext0 (fun p h => g.ext.none h) r).toR
theorem ms_retN : MS X W (.Return none pos) sRetN := ps_imp ps_retN fun D σ H ⟨n, F, ρ, F0, H0, g, q⟩ => q .non F H .refl g.ext (show Rep X.K X.mg F .non .non from rep_non.mpr rfl)
theorem ms_retV (i : Nat) {x : Str} {pos' : Pos} (hN : X.N[i]? = some x := by rfl) (hv : Vis X.env.scope x := by first | exact Or.inl rfl | exact Or.inr (Or.inl rfl) | exact Or.inr (Or.inr rfl)) (hd : (x == ("__debug__" : Str)) = false := by decide)
    (hcd : (x == ("__classdict__" : Str)) = false := by decide) : MS X W (.Return (some (.Name x pos')) pos) (sRetV i) := by
  refine ps_imp (ps_ret (pe_var hN hv hd hcd)) fun D σ H ⟨n, F, ρ, F0, H0, g, q⟩ => ?_
  unfold sRetV at q
  split at q
  · next d e =>
    obtain ⟨v, h1, h2⟩ := g.good.fz i d e
    exact ⟨v, h1, q v F H .refl g.ext h2⟩
  · next d e =>
    obtain ⟨p, h1, h2, h3⟩ := g.good.ow i d e
    exact ⟨_, h1, q _ F H .refl g.ext ⟨p, rfl, g.new i d p e h1, h2, h3⟩⟩
  · exact q.elim
theorem ms_drop (he : ME X W e m) (hs : swapsWith e none pos.line X.env = pure false := by rfl) : MS X W (.Expr e pos) (sDrop m) := by
  refine ps_imp (ps_expr he hs) fun D σ H ⟨n, F, ρ, F0, H0, g, q⟩ => ?_
  refine tM_out g q fun s v F' H' _ xx g' r z => ?_
  exact z σ F' H' .refl g'
theorem ms_brk : MS X W (.Break pos) sBrk := ps_imp ps_break fun D σ H ⟨n, F, ρ, F0, H0, g, q⟩ => q σ F H .refl g
theorem ms_cnt : MS X W (.Continue pos) sCnt := ps_imp ps_continue fun D σ H ⟨n, F, ρ, F0, H0, g, q⟩ => q σ F H .refl g
theorem ms_pass : MS X W (.Pass pos) sNil := ps_imp ps_pass fun D σ H ⟨n, F, ρ, F0, H0, g, q⟩ => q σ F H .refl g
theorem ms_doc {x j pos'} : MS X W (.Expr (.Constant (.str x) j pos) pos') sNil := ps_imp ps_doc fun D σ H ⟨n, F, ρ, F0, H0, g, q⟩ => q σ F H .refl g
theorem ms_if {ce : Expr} {a b : List Stmt} (hc : MT X W ce c) (ha : MSs X W a s) (hb : MSs X W b t) : MS X W (.If ce a b pos) (sIf c s t) := by
  refine ps_imp (ps_if hc ha hb) fun D σ H ⟨n, F, ρ, F0, H0, g, q⟩ => ?_
  refine tT_out g q fun b F' H' _ x g' z => ?_
  cases b with
  | true => rw [if_pos rfl]; exact ⟨n, F', ρ, F0, H0, g', z⟩
  | false => rw [if_neg Bool.false_ne_true]; exact ⟨n, F', ρ, F0, H0, g', z⟩
theorem ms_while {ce : Expr} {b : List Stmt} (hp : PassesOwn (model X.prog X.w) X.A X.env X.xe) (hc : MT X W ce c) (hb : MSs X W b s) : MS X W (.While ce b [] pos) (sWhile c s) := by
  refine ps_imp (ps_while hp hc hb) fun D σ H ⟨n, F, ρ, F0, H0, g, q⟩ => ?_
  refine ⟨fun m σ1 H1 => ∃ F1 ρ1, Stt X.K X.mg F0 H0 F1 H1 ρ1 σ1 ∧ SPost X.K X.mg W F0 H0 F1 H1 D (sWhile c s m ρ1), ⟨n, F, ρ, g, q⟩, ?_⟩
  rintro m σ1 H1 ⟨F1, ρ1, g1, q1⟩
  cases m with
  | zero => exact q1.elim
  | succ m =>
    refine tT_out (k := fun k => if k then oLoop (s m ρ1) (sWhile c s m) else .nx ρ1) g1 q1 fun b F' H' _ x g' z => ?_
    cases b with
    | false => rw [if_neg Bool.false_ne_true]; exact z σ1 F' H' .refl g'
    | true =>
      rw [if_pos rfl]
      have z : SPost X.K X.mg W F0 H0 F' H' D (oLoop (s m ρ1) (sWhile c s m)) := z
      refine ⟨fun σ2 H2 => ∃ F2 ρ2, Stt X.K X.mg F0 H0 F2 H2 ρ2 σ2 ∧ SPost X.K X.mg W F0 H0 F2 H2 D (sWhile c s m ρ2), fun σ2 H2 h => ⟨m, Nat.lt_succ_self m, h⟩, ?_⟩
      refine ⟨m, F', ρ1, F0, H0, g', ?_⟩
      cases e : s m ρ1 with
      | nx ρ' => rw [e] at z; exact fun σ2 F2 H2 x2 g2 => ⟨F2, ρ', g2, z.step x2⟩
      | ct ρ' => rw [e] at z; exact fun σ2 F2 H2 x2 g2 => ⟨F2, ρ', g2, z.step x2⟩
      | bk ρ' => rw [e] at z; exact z
      | rt v => rw [e] at z; exact z
      | ex c ns ds ρ' => rw [e] at z; exact z
      | no => rw [e] at z; exact z
end

/-! ### what a loop walks -/
/-- the walk J hands out the frozen values ds, while what was frozen stands -/
def Gives (K : PySem.W.Frag) (mg : Str → Option Value) (J : It) (F H : Hp) (ds : List D) : Prop :=
  ∀ F1 H1, Sub F1 H1 → Step F H F1 H1 → ∀ i, (i < ds.length → J.go i H1 ∧ ∀ x H', J.yld i H1 x H' → ∃ F' d, ds[i]? = some d ∧ Ext F1 H1 F' H' ∧ Rep K mg F' d x) ∧ (ds.length ≤ i → J.stop i H1)
def tI (K : PySem.W.Frag) (mg : Str → Option Value) (W : WX) (f : Rho → R (List D)) : TI := fun σ H Q => ∃ F ρ, GoodM K mg F H ρ σ ∧ match f ρ with
  | .ok ds => ∀ J F' H', Ext F H F' H' → Gives K mg J F' H' ds → Q J H'
  | .ex c ns ds => XPost K mg W F H σ c ns ds
  | .no => False
abbrev MI (X : Cx) (W : WX) (tg it : Expr) (f : Rho → R (List D)) : Prop := PI X tg it (tI X.K X.mg W f)
theorem pi_imp {X : Cx} {tg it : Expr} {t t' : TI} (h : PI X tg it t) (i : ∀ σ H Q, t' σ H Q → t σ H Q) : PI X tg it t' := ⟨fun pins s σ H Q I q => h.run pins s σ H Q I (i σ H Q q)⟩
/-- targets; ws: the slots that are stored -/
def tG (K : PySem.W.Frag) (mg : Str → Option Value) (ws : List Nat) (g : D → Rho → R Rho) : TG := fun v σ H Q => ∃ F ρ d F0 H0, Stt K mg F0 H0 F H ρ σ ∧ Rep K mg F d v ∧ match g d ρ with
  | .ok ρ' => ∀ σ', Stt K mg F0 H0 F H ρ' σ' → (∀ vs : List Nat, (∀ i ∈ ws, i ∈ vs) → wipe σ' vs = wipe σ vs) → Q σ' H
  | _ => False
theorem set_none_set (σ : SS) (i j : Nat) (x : Option V) (h : j ≠ i) : (σ.set i x).set j none = (σ.set j none).set i x := List.set_comm _ _ (Ne.symm h)
theorem wipe_set {i : Nat} {x : Option V} : ∀ (vs : List Nat) (σ : SS), i ∈ vs → wipe (σ.set i x) vs = wipe σ vs
  | v :: vs, σ, h => by
    unfold wipe
    by_cases e : i = v
    · subst e
      by_cases h2 : i ∈ vs
      · rw [wipe_set vs σ h2]
      · have : ∀ (vs : List Nat) (σ : SS), i ∉ vs → wipe (σ.set i x) vs = (wipe σ vs).set i x := by
          intro vs
          induction vs with
          | nil => intro σ _; rfl
          | cons w ws ih =>
            intro σ hn
            unfold wipe
            rw [ih σ (fun z => hn (List.mem_cons_of_mem _ z)), List.set_comm _ _ (fun z => hn (by rw [z]; exact List.mem_cons_self))]
        rw [this vs σ h2, List.set_set]
    · rw [wipe_set vs σ ((List.mem_cons.mp h).resolve_left e)]
abbrev MG (X : Cx) (tg : Expr) (ws : List Nat) (g : D → Rho → R Rho) : Prop := PG X tg (tG X.K X.mg ws g)
theorem pg_imp {X : Cx} {tg : Expr} {t t' : TG} (h : PG X tg t) (i : ∀ v σ H Q, t' v σ H Q → t v σ H Q) : PG X tg t' := ⟨fun pins s σ H v u Q I r q => h.run pins s σ H v u Q I r (i v σ H Q q)⟩
section
variable {X : Cx} {W : WX} {s : Sem} {e tg it : Expr} {f : Rho → R (List D)} {g : D → Rho → R Rho} {pos : Pos}
theorem mg_name (i : Nat) {x : Str} {pos : Pos} (hN : X.N.Nodup) (hi : X.N[i]? = some x := by rfl) (hx : Loc X.env.scope x := by first | exact .inl rfl | exact .inr rfl) (hf : X.fn x = true ∨ X.env.scope.names.lookup x = some .local := by first | exact .inl rfl | exact .inr rfl | assumption) : MG X (.Name x pos) [i] (gN i) :=
  pg_imp (pg_name hN hi hx hf) fun v σ H Q ⟨F, ρ, d, F0, H0, st, r, q⟩ => q _ (st.setFz i r) fun vs h => wipe_set vs σ (h i (List.mem_singleton.mpr rfl))
theorem for_core {K : PySem.W.Frag} {mg : Str → Option Value} {W : WX} {s : Sem} {g : D → Rho → R Rho} {ws : List Nat} (hgn : ∀ d ρ, NoEx (g d ρ)) {D : Ends} {σ : SS} {n : Nat} {F0 H0 F1 H1 : Hp} {ρ : Rho} {ds : List Mp.D} {J : It}
    (st1 : Stt K mg F0 H0 F1 H1 ρ σ) (q1 : SPost K mg W F0 H0 F1 H1 D (sLoop g s n ds ρ)) (gv : Gives K mg J F1 H1 ds) : tFor (fun _ _ R => R J H1) (tG K mg ws g) (tS K mg W s) D σ H1 := by
  refine ⟨fun i m σ2 H2 => m = ds.length - i ∧ i ≤ ds.length ∧ ∃ F2 ρ2, Step F1 H1 F2 H2 ∧ Stt K mg F0 H0 F2 H2 ρ2 σ2 ∧ SPost K mg W F0 H0 F2 H2 D (sLoop g s n (ds.drop i) ρ2),
    ⟨ds.length, rfl, Nat.zero_le _, F1, ρ, .refl, st1, by rw [List.drop_zero]; exact q1⟩, ?_⟩
  rintro i m σ2 H2 ⟨rfl, hi2, F2, ρ2, sp2, st2, q2⟩
  by_cases hlt : i < ds.length
  · right
    obtain ⟨⟨go, yl⟩, _⟩ : (J.go i H2 ∧ ∀ x H', J.yld i H2 x H' → ∃ F' d, ds[i]? = some d ∧ Ext F2 H2 F' H' ∧ Rep K mg F' d x) ∧ True := ⟨(gv F2 H2 st2.good.sub sp2 i).1 hlt, trivial⟩
    refine ⟨go, fun σ3 H3 => i + 1 ≤ ds.length ∧ ∃ F3 ρ3, Step F1 H1 F3 H3 ∧ Stt K mg F0 H0 F3 H3 ρ3 σ3 ∧ SPost K mg W F0 H0 F3 H3 D (sLoop g s n (ds.drop (i + 1)) ρ3), fun σ3 H3 h => ⟨ds.length - (i + 1), by omega, rfl, h⟩, fun xv H3 hy => ?_⟩
    obtain ⟨F3, d, hd, x3, r3⟩ := yl xv H3 hy
    have st3 := st2.grow x3
    have q3 := q2.step (x3.step st2.good.sub)
    have ed : ds.drop i = d :: ds.drop (i + 1) := by
      rw [List.drop_eq_getElem_cons hlt]
      have : ds[i] = d := by rw [List.getElem?_eq_getElem hlt] at hd; exact Option.some.inj hd
      rw [this]
    rw [ed] at q3
    unfold sLoop at q3
    refine ⟨F3, ρ2, d, F0, H0, st3, r3, ?_⟩
    cases e2 : g d ρ2 with
    | ex c ns ds => exact (hgn d ρ2 c ns ds e2).elim
    | no => rw [e2] at q3; exact q3
    | ok ρ3 =>
      rw [e2] at q3
      intro σ3 st4 _
      have q3 : SPost K mg W F0 H0 F3 H3 D (oLoop (s n ρ3) (sLoop g s n (ds.drop (i + 1)))) := q3
      refine ⟨n, F3, ρ3, F0, H0, st4, ?_⟩
      have sp3 := sp2.trans (x3.step st2.good.sub)
      cases e3 : s n ρ3 with
      | nx ρ' => rw [e3] at q3; exact fun σ4 F4 H4 x4 st5 => ⟨hlt, F4, ρ', sp3.trans x4, st5, q3.step x4⟩
      | ct ρ' => rw [e3] at q3; exact fun σ4 F4 H4 x4 st5 => ⟨hlt, F4, ρ', sp3.trans x4, st5, q3.step x4⟩
      | bk ρ' => rw [e3] at q3; exact q3
      | rt v => rw [e3] at q3; exact q3
      | ex c ns ds ρ' => rw [e3] at q3; exact q3
      | no => rw [e3] at q3; exact q3
  · left
    have ei : i = ds.length := by omega
    subst ei
    refine ⟨(gv F2 H2 st2.good.sub sp2 _).2 (Nat.le_refl _), ?_⟩
    rw [List.drop_length] at q2
    exact q2 σ2 F2 H2 .refl st2
theorem ms_for {body : List Stmt} (hp : PassesOwn (model X.prog X.w) X.A X.env X.xe) (hc : X.calm = true) (hi : MI X W tg it f) {ws : List Nat} (hg : MG X tg ws g) (hgn : ∀ d ρ, NoEx (g d ρ)) (hb : MSs X W body s)
    (hs : ∀ x, foldedSetIterable it X.env x = pure x := by intro _; rfl) : MS X W (.For tg it body [] pos) (sFor f g s) := by
  refine ps_imp (ps_for hp hc hi hg hb hs) fun D σ H ⟨n, F, ρ, F0, H0, st, q⟩ => ?_
  refine ⟨F, ρ, st.good, ?_⟩
  unfold sFor at q
  cases e : f ρ with
  | ex c ns ds => rw [e] at q; exact fun cl dx F' H' x r => q cl dx σ F' H' (x.step st.good.sub) (st.grow x) r
  | no => rw [e] at q; exact q
  | ok ds =>
    rw [e] at q
    exact fun J F1 H1 x gv => for_core hgn (st.grow x) (SPost.step (x.step st.good.sub) (show SPost X.K X.mg W F0 H0 F H D (sLoop g s n ds ρ) from q)) gv
end
end Mp

namespace Mp
open PySem PySem.Spec PyProof.Rows L2

/-! ### defs -/
def SpM (K : PySem.W.Frag) (mg : Str → Option Value) (np : Nat) (mir : List D → R Sl) : Sp := fun vs H Q E => ∃ F ds, Sub F H ∧ Reps K mg F ds vs ∧ ds.length = np ∧
  match mir ds with
  | .ok s => ∀ v F' H', Ext F H F' H' → Res K mg H F' H' s v → Q v H'
  | .ex c ns es => ∀ cl dx F' H', Ext F H F' H' → RepX K mg F' H' c ns es cl dx → E cl dx H'
  | .no => False
/-- the module's def x is known: called with np arguments it does what mir does; k: its level -/
structure FnM (P : Program) (w : World) (K : PySem.W.Frag) (mg : Str → Option Value) (base : Heap) (x : Str) (k np : Nat) (mir : List D → R Sl) : Prop where
  ex : ∃ (f : Addr) (fd : FuncData) (ps : List Str), FnOk P w K mg base (L2.CX P w) k f fd ps (SpM K mg np mir) ∧ mg x = some (.ref f) ∧ PySem.W.keepIn K (.ref f) = true ∧ Binds K fd ps []
@[simp] def callF (mir : List D → R Sl) (fs : Rho → R (List D)) : Rho → R Sl := fun ρ => (fs ρ).bind mir
section
variable {X : Cx} {W : WX} {e : Expr} {es : List Expr} {fs : Rho → R (List D)} {k np : Nat} {mir : List D → R Sl} {x : Str} {p pos : Pos}
theorem me_call (G : FnM X.prog X.w X.K X.mg X.base x k np mir) (tk : Takes X W) (hr : Room k X.A) (ha : MA X W (e :: es) fs) (hnp : (e :: es).length = np := by rfl) (hlen : ∀ ρ ds, fs ρ = .ok ds → ds.length = np) (hg : Gl X x := by rfl)
    (hdb : (x == ("__debug__" : Str)) = false := by decide) (he : starEach (e :: es) X.env = (false, eval e X.env) :: starEach es X.env := by rfl) (hpl : (backTo pos (starEach es X.env)).any (·.1) = false := by rfl) :
    ME X W (.Call (.Name x p) (e :: es) [] pos) (callF mir fs) := by
  obtain ⟨f, fd, ps, F, hm, hk, hb⟩ := G.ex
  refine pe_imp (pe_callS F hr hg hm hk hb (fun σ => passAt tk σ) ha hdb he hpl) fun σ H Q ⟨Fz, ρ, g, q⟩ => ?_
  refine ⟨Fz, ρ, g, ?_⟩
  unfold callF at q
  cases e1 : fs ρ with
  | ex c ns ds => rw [e1] at q; exact q
  | no => rw [e1] at q; exact q
  | ok ds =>
    rw [e1] at q
    intro vs F1 H1 x1 r1
    refine ⟨F1, ds, x1.sub, r1, hlen ρ ds e1, ?_⟩
    have q : EPost X.K X.mg W Fz H σ Q (mir ds) := q
    cases e2 : mir ds with
    | ex c ns es => rw [e2] at q; exact fun cl dx F' H' x' r => q cl dx F' H' (x1.trans x') r
    | no => rw [e2] at q; exact q
    | ok s => rw [e2] at q; exact fun v F' H' x' r => q v F' H' (x1.trans x') (res_ext0 (fun p h => x1.none h) r)
end
def startR (N : List Str) (ds : List D) : Rho := ds.map .fz ++ List.replicate (N.length - ds.length) .un
def outR : Out → R Sl
  | .rt (.fz d) => .ok (.fz d)
  | .rt (.ow d) => .ok (.ow d)
  | .nx _ => .ok (.fz .non)
  | .ex c ns ds _ => .ex c ns ds
  | _ => .no
/-- what a def makes of its arguments, by its body -/
def RunsTo (s : Sem) (N : List Str) (ds : List D) (r : R Sl) : Prop := ∃ n, outR (s n (startR N ds)) = r
theorem start_good {K : PySem.W.Frag} {mg : Str → Option Value} {F H : Hp} {N : List Str} {ds : List D} {vs : List V} (sb : Sub F H) (r : Reps K mg F ds vs) : Stt K mg F H F H (startR N ds) (L2.start N vs) := by
  have hl := r.length
  have look : ∀ {i : Nat} {t : Sl}, (startR N ds)[i]? = some t → t = .un ∨ ∃ d, t = .fz d ∧ ds[i]? = some d := fun {i t} e => by
    unfold startR at e
    by_cases hi : i < ds.length
    · rw [List.getElem?_append_left (by simpa using hi), List.getElem?_map, List.getElem?_eq_getElem hi] at e
      cases e
      exact .inr ⟨_, rfl, List.getElem?_eq_getElem hi⟩
    · rw [List.getElem?_append_right (by simpa using hi), List.getElem?_replicate] at e
      split at e
      · cases e; exact .inl rfl
      · cases e
  refine ⟨⟨sb, ?_, fun i d e => ?_, fun i d e => ?_, fun i j d e p a b _ _ => ?_⟩, .refl sb, fun i d p a _ => ?_⟩
  · unfold startR L2.start
    simp only [List.length_append, List.length_map, List.length_replicate, hl]
  · rcases look e with z | ⟨d', z, q⟩
    · cases z
    · cases z
      obtain ⟨v, h1, h2⟩ := r.get q
      refine ⟨v, ?_, h2⟩
      have hi : i < vs.length := (List.getElem?_eq_some_iff.mp h1).1
      unfold L2.start
      rw [List.getElem?_append_left (by simpa using hi), List.getElem?_map, h1]
      rfl
  · rcases look e with z | ⟨d', z, _⟩ <;> cases z
  · rcases look a with z | ⟨d', z, _⟩ <;> cases z
  · rcases look a with z | ⟨d', z, _⟩ <;> cases z
section
variable {P : Program} {w : World} {K : PySem.W.Frag} {mg : Str → Option Value} {base : Heap}
/-- THE RULE for a def: its body's meaning s, and the function mir that s runs to -/
theorem fnok_of {x qual : Str} {st : Stmt} {f : Addr} {fd : FuncData} {N ps : List Str} {k np : Nat} {mir : List D → R Sl} {s : Sem} (F : Fun K x qual st f fd) (S : FnScope N ps (defScope st)) (hnp : np = ps.length)
    (hb : ∀ (cdv : Value) (A : Around) (outer : List Env) (s0 : Shared) (H : Hp) (E : XK), Room k (A.deeper (envOfC qual (defScope st) s0.heap.objs.size f cdv)) →
      MSs (cxOf (L2.CX P w) P w K mg base N qual (defScope st) f cdv A outer s0 H E) (fun cls d _ H => E cls d H) (defBody st) s)
    (hm : ∀ ds, ds.length = np → mir ds = .no ∨ RunsTo s N ds (mir ds)) : FnOk P w K mg base (L2.CX P w) (k + 1) f fd ps (SpM K mg np mir) := by
  refine F.okX S (fun vs H Q E h => ?_) (fun cdv A outer s0 H vs Q E hr h => ?_)
  · obtain ⟨Fz, ds, sb, r, hl, _⟩ := h
    rw [r.length, hl, hnp]
  · obtain ⟨Fz, ds, sb, r, hl, q⟩ := h
    refine ⟨_, hb cdv A outer s0 H E hr, ?_⟩
    rcases hm ds hl with e | ⟨n, e⟩
    · rw [e] at q; exact q.elim
    · refine ⟨n, Fz, startR N ds, Fz, H, start_good sb r, ?_⟩
      cases e2 : s n (startR N ds) with
      | nx ρ => rw [e2] at e; rw [← e] at q; exact fun σ' F' H' _ st => q .non F' H' st.ext (show Rep K mg F' .non .non from rep_non.mpr rfl)
      | rt v =>
        rw [e2] at e
        cases v with
        | fz d => rw [← e] at q; exact fun v F' H' _ x r => q v F' H' x r
        | ow d => rw [← e] at q; exact fun v F' H' _ x r => q v F' H' x r
        | un => rw [← e] at q; exact q.elim
        | io d p is => rw [← e] at q; exact q.elim
      | ex c ns ds ρ => rw [e2] at e; rw [← e] at q; exact fun cl dx σ' F' H' _ st r => q cl dx F' H' st.ext r
      | bk ρ => rw [e2] at e; rw [← e] at q; exact q.elim
      | ct ρ => rw [e2] at e; rw [← e] at q; exact q.elim
      | no => rw [e2] at e; rw [← e] at q; exact q.elim
theorem fnm_of {x qual : Str} {st : Stmt} {f : Addr} {fd : FuncData} {N ps : List Str} {k np : Nat} {mir : List D → R Sl} {s : Sem} (F : Fun K x qual st f fd) (S : FnScope N ps (defScope st)) (gm : mg x = some (.ref f)) (b : Binds K fd ps []) (hnp : np = ps.length)
    (hb : ∀ (cdv : Value) (A : Around) (outer : List Env) (s0 : Shared) (H : Hp) (E : XK), Room k (A.deeper (envOfC qual (defScope st) s0.heap.objs.size f cdv)) →
      MSs (cxOf (L2.CX P w) P w K mg base N qual (defScope st) f cdv A outer s0 H E) (fun cls d _ H => E cls d H) (defBody st) s)
    (hm : ∀ ds, ds.length = np → mir ds = .no ∨ RunsTo s N ds (mir ds)) : FnM P w K mg base x (k + 1) np mir := ⟨f, fd, ps, fnok_of F S hnp hb hm, gm, F.kp, b⟩
end

/-! ### walks -/
@[simp] def slLst : D → R (List D)
  | .lst ds => .ok ds
  | .tup ds => .ok ds
  | .str x => .ok (x.cps.toList.map fun c => .str ⟨#[c]⟩)
  | .sq is => .ok (is.map .int)
  | .wt ds => .ok ds
  | _ => .no
@[simp] def seqI (m : Rho → R Sl) : Rho → R (List D) := fun ρ => (m ρ).bind fun s => (slD s).bind slLst
theorem pi_or {X : Cx} {tg it : Expr} {t u : TI} (h : PI X tg it t) (h' : PI X tg it u) : PI X tg it (fun σ H R => t σ H R ∨ u σ H R) := ⟨fun pins s σ H R I q => q.elim (h.run pins s σ H R I) (h'.run pins s σ H R I)⟩
theorem gives_list {K : PySem.W.Frag} {mg : Str → Option Value} {F H : Hp} {a : Addr} {vs : List V} {ds : List D} (h : LstAt K F a vs) (r : Reps K mg F ds vs) : Gives K mg (Itl K a) F H ds := fun F1 H1 sb st i => by
  have kp : ∀ a u, F a = some u → F1 a = some u := fun a u e => (st a u e).1
  have hq : SqL K H1 a vs := (h.mono kp).sq sb
  have hl := r.length
  refine ⟨fun hi => ⟨⟨vs, vs[i], hq, List.getElem?_eq_getElem (by omega)⟩, fun x H' hy => ?_⟩, fun hi => ⟨vs, hq, by omega⟩⟩
  obtain ⟨rfl, hy⟩ := hy
  obtain ⟨d, h1, h2⟩ := r.get' (hy vs hq)
  exact ⟨F1, d, h1, .refl sb, h2.mono kp⟩
theorem gives_sq {K : PySem.W.Frag} {mg : Str → Option Value} {F H : Hp} {a : Addr} {is : List Int} (h : ScrAt K F a (is.map V.int)) : Gives K mg (Itl K a) F H (is.map .int) := fun F1 H1 sb st i => by
  have kp : ∀ a u, F a = some u → F1 a = some u := fun a u e => (st a u e).1
  have hq : SqL K H1 a (is.map V.int) := (h.mono kp).sq sb
  refine ⟨fun hi => ?_, fun hi => ⟨_, hq, by rw [List.length_map] at hi ⊢; exact hi⟩⟩
  have hi' : i < is.length := by rw [List.length_map] at hi; exact hi
  have e0 : (is.map V.int)[i]? = some (.int is[i]) := by rw [List.getElem?_map, List.getElem?_eq_getElem hi']; rfl
  refine ⟨⟨_, _, hq, e0⟩, fun x H' hy => ?_⟩
  obtain ⟨rfl, hy⟩ := hy
  have e1 := hy _ hq
  rw [e0] at e1
  cases e1
  exact ⟨F1, .int is[i], by rw [List.getElem?_map, List.getElem?_eq_getElem hi']; rfl, .refl sb, rep_int.mpr rfl⟩
theorem gives_tup {K : PySem.W.Frag} {mg : Str → Option Value} {F H : Hp} {a : Addr} {vs : List V} {ds : List D} (h : TupAt K F a vs) (r : Reps K mg F ds vs) : Gives K mg (Itt K a) F H ds := fun F1 H1 sb st i => by
  have kp : ∀ a u, F a = some u → F1 a = some u := fun a u e => (st a u e).1
  have hq : SqT K H1 a vs := (h.mono kp).sq sb
  have hl := r.length
  refine ⟨fun hi => ⟨⟨vs, vs[i], hq, List.getElem?_eq_getElem (by omega)⟩, fun x H' hy => ?_⟩, fun hi => ⟨vs, hq, by omega⟩⟩
  obtain ⟨rfl, hy⟩ := hy
  obtain ⟨d, h1, h2⟩ := r.get' (hy vs hq)
  exact ⟨F1, d, h1, .refl sb, h2.mono kp⟩
theorem gives_wt {K : PySem.W.Frag} {mg : Str → Option Value} {F H : Hp} {a : Addr} {vs : List V} {ds : List D} (h : WtAt K a vs) (r : Reps K mg F ds vs) : Gives K mg (Itt K a) F H ds := fun F1 H1 sb st i => by
  have kp : ∀ a u, F a = some u → F1 a = some u := fun a u e => (st a u e).1
  have hq : SqT K H1 a vs := h.sq
  have hl := r.length
  refine ⟨fun hi => ⟨⟨vs, vs[i], hq, List.getElem?_eq_getElem (by omega)⟩, fun x H' hy => ?_⟩, fun hi => ⟨vs, hq, by omega⟩⟩
  obtain ⟨rfl, hy⟩ := hy
  obtain ⟨d, h1, h2⟩ := r.get' (hy vs hq)
  exact ⟨F1, d, h1, .refl sb, h2.mono kp⟩
theorem gives_str {K : PySem.W.Frag} {mg : Str → Option Value} {F H : Hp} {z : Str} : Gives K mg (Its z) F H (z.cps.toList.map fun c => .str ⟨#[c]⟩) := fun F1 H1 sb st i => by
  refine ⟨fun hi => ⟨show i < z.cps.size by simpa using hi, fun x H' hy => ?_⟩, fun hi => show z.cps.size ≤ i by simpa using hi⟩
  obtain ⟨rfl, c, h1, rfl⟩ := hy
  refine ⟨F1, .str ⟨#[c]⟩, ?_, .refl sb, rep_str.mpr rfl⟩
  rw [List.getElem?_map]
  have : z.cps.toList[i]? = some c := by simpa using h1
  rw [this]; rfl
theorem gives_range {K : PySem.W.Frag} {mg : Str → Option Value} {F H : Hp} {lo : Int} {n : Nat} : Gives K mg (Itr lo n) F H ((List.range n).map fun i => .int (lo + (i : Nat))) := fun F1 H1 sb st i => by
  refine ⟨fun hi => ⟨show i < n by simpa using hi, fun x H' hy => ?_⟩, fun hi => show n ≤ i by simpa using hi⟩
  obtain ⟨rfl, rfl⟩ := hy
  have hi' : i < n := by simpa using hi
  refine ⟨F1, .int (lo + (i : Nat)), ?_, .refl sb, rep_int.mpr rfl⟩
  rw [List.getElem?_map, List.getElem?_range hi']; rfl
section
variable {X : Cx} {W : WX} {e tg : Expr} {m : Rho → R Sl} {f : Rho → R D} {fs : Rho → R (List D)} {p pos : Pos}
theorem frz_rep {K : PySem.W.Frag} {mg : Str → Option Value} {F H F' H' : Hp} {s : Sl} {v : V} {d : D} (x : Ext F H F' H') (r : Res K mg H F' H' s v) (e : slD s = .ok d) : ∃ F2, Ext F H F2 H' ∧ Rep K mg F2 d v := by
  obtain ⟨d', F2, e2, x2, r2⟩ := freeze_res x r
  rw [e] at e2; cases e2
  exact ⟨F2, x2, r2⟩
/-- a list, a tuple, a text is walked -/
theorem mi_seq (he : ME X W e m) : MI X W tg e (seqI m) := by
  refine pi_imp (pi_or (pi_list he) (pi_or (pi_tup he) (pi_str he))) fun σ H Q ⟨F, ρ, g, q⟩ => ?_
  unfold seqI at q
  cases e1 : m ρ with
  | ex c ns ds => rw [e1] at q; exact .inl ⟨F, ρ, g, by rw [e1]; exact q⟩
  | no => rw [e1] at q; exact q.elim
  | ok s =>
    rw [e1] at q
    have q : match (slD s).bind slLst with | .ok ds => ∀ J F' H', Ext F H F' H' → Gives X.K X.mg J F' H' ds → Q J H' | .ex c ns ds => XPost X.K X.mg W F H σ c ns ds | .no => False := q
    cases e2 : slD s with
    | ex c ns ds => cases s <;> cases e2
    | no => rw [e2] at q; exact q.elim
    | ok d =>
      rw [e2, R.bind_ok] at q
      cases d with
      | lst ds =>
        refine .inl ⟨F, ρ, g, ?_⟩
        rw [e1]
        intro v F1 H1 x1 r1
        obtain ⟨F2, x2, r2⟩ := frz_rep x1 r1 e2
        obtain ⟨a, vs, ev, la, rs⟩ := rep_lst.mp r2
        exact ⟨a, ev, ⟨vs, la.sq x2.sub⟩, q _ F2 H1 x2 (gives_list la rs)⟩
      | sq is =>
        refine .inl ⟨F, ρ, g, ?_⟩
        rw [e1]
        intro v F1 H1 x1 r1
        obtain ⟨F2, x2, r2⟩ := frz_rep x1 r1 e2
        obtain ⟨a, ev, la⟩ := rep_sq.mp r2
        exact ⟨a, ev, ⟨_, la.sq x2.sub⟩, q _ F2 H1 x2 (gives_sq la)⟩
      | tup ds =>
        refine .inr (.inl ⟨F, ρ, g, ?_⟩)
        rw [e1]
        intro v F1 H1 x1 r1
        obtain ⟨F2, x2, r2⟩ := frz_rep x1 r1 e2
        obtain ⟨a, vs, ev, la, rs⟩ := rep_tup.mp r2
        exact ⟨a, ev, ⟨vs, la.sq x2.sub⟩, q _ F2 H1 x2 (gives_tup la rs)⟩
      | wt ds =>
        refine .inr (.inl ⟨F, ρ, g, ?_⟩)
        rw [e1]
        intro v F1 H1 x1 r1
        obtain ⟨F2, x2, r2⟩ := frz_rep x1 r1 e2
        obtain ⟨a, vs, ev, la, rs⟩ := rep_wt.mp r2
        exact ⟨a, ev, ⟨vs, la.sq⟩, q _ F2 H1 x2 (gives_wt la rs)⟩
      | str z =>
        refine .inr (.inr ⟨F, ρ, g, ?_⟩)
        rw [e1]
        intro v F1 H1 x1 r1
        obtain ⟨F2, x2, r2⟩ := frz_rep x1 r1 e2
        exact ⟨z, rep_str.mp r2, q _ F2 H1 x2 gives_str⟩
      | _ => exact q.elim
def rngL (i j : Int) : List D := (List.range (j - i).toNat).map fun (k : Nat) => .int (i + (k : Nat))
/-- a guard's answer, never worked out -/
noncomputable def guardB (p : Prop) : Bool := @decide p (Classical.propDecidable p)
theorem guardB_iff {p : Prop} : guardB p = true ↔ p := @decide_eq_true_iff p (Classical.propDecidable p)
noncomputable def rngOk (i : Int) : Bool := guardB (-(2 ^ 62) ≤ i ∧ i < 2 ^ 62)
theorem rngOk_iff {i : Int} (h : rngOk i = true) : -(2 ^ 62) ≤ i ∧ i < 2 ^ 62 := guardB_iff.mp h
@[simp] noncomputable def rng1 (fs : Rho → R (List D)) : Rho → R (List D) := fun ρ => (fs ρ).bind fun
  | [.int j] => if rngOk j then .ok (rngL 0 j) else .no
  | _ => .no
@[simp] noncomputable def rng2 (fs : Rho → R (List D)) : Rho → R (List D) := fun ρ => (fs ρ).bind fun
  | [.int i, .int j] => if rngOk i && rngOk j then .ok (rngL i j) else .no
  | _ => .no
theorem helds_cons {K : PySem.W.Frag} {mg : Str → Option Value} {F H : Hp} {d : D} {ds : List D} {vs : List V} : Helds K mg F H (d :: ds) vs ↔ ∃ v r, vs = v :: r ∧ Held K mg F H d v ∧ Helds K mg F H ds r := Iff.rfl
theorem tL_then {β : Type} {k : List D → R β} {P : Hp → Hp → R β → Prop} {Q : List V → Hp → Prop} {K : PySem.W.Frag} {mg : Str → Option Value} {F H : Hp} {ρ : Rho} {σ : SS} (g : GoodM K mg F H ρ σ) (hp : P F H ((fs ρ).bind k))
    (px : ∀ c ns ds, P F H (.ex c ns ds) → XPost K mg W F H σ c ns ds) (pn : ¬ P F H .no) (pe : ∀ F' H' r, Ext F H F' H' → P F H r → P F' H' r)
    (h : ∀ d v F' H', fs ρ = .ok d → Ext F H F' H' → GoodM K mg F' H' ρ σ → Helds K mg F' H' d v → P F' H' (k d) → Q v H') : tL K mg W fs σ H Q := by
  refine ⟨F, ρ, g, ?_⟩
  cases e : fs ρ with
  | ok d => exact fun v F' H' x r => h d v F' H' e x (g.ext x) r (pe F' H' _ x (by rw [e] at hp; exact hp))
  | ex c ns ds => exact px c ns ds (by rw [e] at hp; exact hp)
  | no => exact pn (by rw [e] at hp; exact hp)
def IPost (K : PySem.W.Frag) (mg : Str → Option Value) (W : WX) (F H : Hp) (σ : SS) (Q : It → Hp → Prop) : R (List D) → Prop
  | .ok ds => ∀ J F' H', Ext F H F' H' → Gives K mg J F' H' ds → Q J H'
  | .ex c ns ds => XPost K mg W F H σ c ns ds
  | .no => False
theorem IPost.ext {K : PySem.W.Frag} {mg : Str → Option Value} {F H F1 H1 : Hp} {σ : SS} {Q : It → Hp → Prop} (x : Ext F H F1 H1) : ∀ {r : R (List D)}, IPost K mg W F H σ Q r → IPost K mg W F1 H1 σ Q r
  | .ok ds, h => fun J F' H' x' g => h J F' H' (x.trans x') g
  | .ex c ns ds, h => XPost.ext x h
  | .no, h => h
theorem tI_of {K : PySem.W.Frag} {mg : Str → Option Value} {f : Rho → R (List D)} {σ : SS} {H : Hp} {Q : It → Hp → Prop} (h : tI K mg W f σ H Q) : ∃ F ρ, GoodM K mg F H ρ σ ∧ IPost K mg W F H σ Q (f ρ) := by
  obtain ⟨F, ρ, g, q⟩ := h
  refine ⟨F, ρ, g, ?_⟩
  cases e : f ρ <;> rw [e] at q <;> exact q
theorem mi_range1 (hm : X.mg "range" = none) (ha : ML X W [e] fs) (hg : Gl X "range" := by rfl) (hs : starEach [e] X.env = [(false, eval e X.env)] := by rfl) : MI X W tg (.Call (.Name "range" p) [e] [] pos) (rng1 fs) := by
  refine pi_imp (pi_range1 hg hm ha hs) fun σ H Q t => ?_
  obtain ⟨F, ρ, g, q⟩ := tI_of t
  refine tL_then (P := fun F H => IPost X.K X.mg W F H σ Q) g q (fun _ _ _ z => z) (fun z => z) (fun F' H' r x z => z.ext x) fun d v F' H' _ x g' r z => ?_
  match d, r, z with
  | [.int j], r, z =>
    obtain ⟨v1, r1, rfl, h1, h2⟩ := r
    have z : IPost X.K X.mg W F' H' σ Q (if rngOk j then .ok (rngL 0 j) else .no) := z
    cases hb : rngOk j with
    | false => rw [hb] at z; exact z.elim
    | true =>
      rw [hb, if_pos rfl] at z
      have hb := rngOk_iff hb
      have e1 := held_int.mp h1
      subst e1
      have e2 : r1 = [] := h2
      subst e2
      refine ⟨j, rfl, hb.1, hb.2, z _ F' H' (.refl g'.sub) ?_⟩
      unfold rngL
      rw [Int.sub_zero]
      exact gives_range
  | [], r, z => exact z.elim
  | .non :: _, r, z => exact z.elim
  | .bl _ :: _, r, z => exact z.elim
  | .str _ :: _, r, z => exact z.elim
  | .tup _ :: _, r, z => exact z.elim
  | .lst _ :: _, r, z => exact z.elim
  | .dk _ _ :: _, r, z => exact z.elim
  | .dt _ _ :: _, r, z => exact z.elim
  | .obj _ _ _ :: _, r, z => exact z.elim
  | .sq _ :: _, r, z => exact z.elim
  | .wt _ :: _, r, z => exact z.elim
  | .exc _ :: _, r, z => exact z.elim
  | .cel _ _ :: _, r, z => exact z.elim
  | .int _ :: _ :: _, r, z => exact z.elim
theorem helds_ints {K : PySem.W.Frag} {mg : Str → Option Value} {F H : Hp} : ∀ {is : List Int} {vs : List V}, Helds K mg F H (is.map .int) vs → vs = is.map V.int
  | [], _, e => e
  | i :: is, vs, ⟨v, r, e, h, t⟩ => by
    rw [e, held_int.mp h, helds_ints t]; rfl
/-- all items are ints -/
def asInts : List D → Option (List Int)
  | [] => some []
  | .int i :: ds => (asInts ds).map (i :: ·)
  | _ => none
theorem asInts_eq : ∀ {ds : List D} {is : List Int}, asInts ds = some is → ds = is.map .int
  | [], is, h => by cases h; rfl
  | d :: ds, is, h => by
    cases d <;> try (cases h; done)
    unfold asInts at h
    cases e : asInts ds with
    | none => rw [e] at h; cases h
    | some js => rw [e] at h; cases h; rw [asInts_eq e]; rfl
theorem mi_range2 {e2 : Expr} (hm : X.mg "range" = none) (ha : ML X W [e, e2] fs) (hg : Gl X "range" := by rfl) (hs : starEach [e, e2] X.env = [(false, eval e X.env), (false, eval e2 X.env)] := by rfl) (hs2 : starEach [e2] X.env = [(false, eval e2 X.env)] := by rfl) :
    MI X W tg (.Call (.Name "range" p) [e, e2] [] pos) (rng2 fs) := by
  refine pi_imp (pi_range2 hg hm ha hs hs2) fun σ H Q t => ?_
  obtain ⟨F, ρ, g, q⟩ := tI_of t
  refine tL_then (P := fun F H => IPost X.K X.mg W F H σ Q) g q (fun _ _ _ z => z) (fun z => z) (fun F' H' r x z => z.ext x) fun d v F' H' _ x g' r z => ?_
  unfold rng2 at q
  split at z
  · rename_i i j hfs
    cases hb : (rngOk i && rngOk j) with
    | false => rw [hb] at z; exact z.elim
    | true =>
      rw [hb, if_pos rfl] at z
      rw [Bool.and_eq_true] at hb
      have h1 := rngOk_iff hb.1
      have h2 := rngOk_iff hb.2
      have ev : v = [V.int i, V.int j] := helds_ints (is := [i, j]) r
      subst ev
      exact ⟨i, j, rfl, ⟨h1.1, h1.2, h2.1, h2.2⟩, z _ F' H' (.refl g'.sub) gives_range⟩
  · exact z.elim
end
end Mp

namespace Mp
open PySem PySem.Spec PyProof.Rows L2

/-! ### tables: pairs of keys and items -/
section
variable {κ α : Type} [DecidableEq κ]
def valG (kvs : List (κ × α)) (k : κ) : Option α := (kvs.find? fun kv => decide (kv.1 = k)).map (·.2)
def putG (kvs : List (κ × α)) (k : κ) (v : α) : List (κ × α) :=
  if (kvs.any fun kv => decide (kv.1 = k)) = true then kvs.map (fun kv => if kv.1 = k then (kv.1, v) else kv) else kvs ++ [(k, v)]
def dropG (kvs : List (κ × α)) (k : κ) : List (κ × α) := kvs.filter fun kv => decide (kv.1 ≠ k)
def mergeG (kvs more : List (κ × α)) : List (κ × α) := more.foldl (fun acc kv => putG acc kv.1 kv.2) kvs
theorem zip_unzip : ∀ kvs : List (κ × α), (kvs.map (·.1)).zip (kvs.map (·.2)) = kvs
  | [] => rfl
  | p :: r => by rw [List.map_cons, List.map_cons, List.zip_cons_cons, zip_unzip r]
end
/-- a dict by its pairs -/
def dKv (kvs : List (Key × D)) : D := .dk (kvs.map (·.1)) (kvs.map (·.2))
def dTv (kvs : List (List Key × D)) : D := .dt (kvs.map (·.1)) (kvs.map (·.2))

section
variable {κ : Type} [DecidableEq κ] {K : PySem.W.Frag} {mg : Str → Option Value} {F F' : Hp}
/-- the pairs of values stand for the pairs of deep values -/
def PZ (K : PySem.W.Frag) (mg : Str → Option Value) (F : Hp) : List (κ × V) → List (κ × D) → Prop
  | [], zs => zs = []
  | w :: ws, zs => ∃ z r, zs = z :: r ∧ w.1 = z.1 ∧ Rep K mg F z.2 w.2 ∧ PZ K mg F ws r
theorem PZ.mono (h : ∀ a u, F a = some u → F' a = some u) : ∀ {ws : List (κ × V)} {zs : List (κ × D)}, PZ K mg F ws zs → PZ K mg F' ws zs
  | [], _, e => e
  | w :: ws, _, ⟨z, r, e, e1, e2, e3⟩ => ⟨z, r, e, e1, e2.mono h, e3.mono h⟩
theorem PZ.of : ∀ {ws : List (κ × V)} {ks : List κ} {ds : List D}, ws.map (·.1) = ks → Reps K mg F ds (ws.map (·.2)) → PZ K mg F ws (ks.zip ds)
  | [], ks, ds, e, r => by
    subst e
    cases ds with
    | nil => rfl
    | cons d ds => obtain ⟨v, r', e, _⟩ := reps_cons.mp r; cases e
  | w :: ws, ks, ds, e, r => by
    subst e
    cases ds with
    | nil => exact absurd (reps_nil.mp r) (by simp)
    | cons d ds =>
      obtain ⟨v, r', e, h1, h2⟩ := reps_cons.mp r
      rw [List.map_cons] at e
      cases e
      exact ⟨_, _, by rw [List.map_cons, List.zip_cons_cons], rfl, h1, PZ.of rfl h2⟩
theorem PZ.fst : ∀ {ws : List (κ × V)} {zs : List (κ × D)}, PZ K mg F ws zs → ws.map (·.1) = zs.map (·.1)
  | [], _, e => by rw [show _ = [] from e]; rfl
  | w :: ws, _, ⟨z, r, e, e1, e2, e3⟩ => by rw [e, List.map_cons, List.map_cons, e1, e3.fst]
theorem PZ.snd : ∀ {ws : List (κ × V)} {zs : List (κ × D)}, PZ K mg F ws zs → Reps K mg F (zs.map (·.2)) (ws.map (·.2))
  | [], _, e => by rw [show _ = [] from e]; exact reps_nil.mpr rfl
  | w :: ws, _, ⟨z, r, e, e1, e2, e3⟩ => by rw [e, List.map_cons, List.map_cons]; exact reps_cons.mpr ⟨_, _, rfl, e2, e3.snd⟩
theorem PZ.length : ∀ {ws : List (κ × V)} {zs : List (κ × D)}, PZ K mg F ws zs → ws.length = zs.length := fun h => by
  have := congrArg List.length h.fst
  simpa using this
theorem PZ.val : ∀ {ws : List (κ × V)} {zs : List (κ × D)} {k : κ}, PZ K mg F ws zs → (valG zs k = none ∧ valV ws k = none) ∨ ∃ d v, valG zs k = some d ∧ valV ws k = some v ∧ Rep K mg F d v
  | [], _, k, e => by rw [show _ = [] from e]; exact .inl ⟨rfl, rfl⟩
  | w :: ws, _, k, ⟨z, r, e, e1, e2, e3⟩ => by
    subst e
    by_cases h : w.1 = k
    · right
      refine ⟨z.2, w.2, ?_, valV_pos h, e2⟩
      simp [valG, List.find?_cons, e1 ▸ h]
    · have h' : ¬ z.1 = k := fun q => h (e1.trans q)
      have a1 : valV (w :: ws) k = valV ws k := valV_neg h
      have a2 : valG (z :: r) k = valG r k := by simp [valG, List.find?_cons, h']
      rw [a1, a2]
      exact e3.val
theorem PZ.any : ∀ {ws : List (κ × V)} {zs : List (κ × D)} {k : κ}, PZ K mg F ws zs → (ws.any fun kv => decide (kv.1 = k)) = zs.any fun kv => decide (kv.1 = k)
  | [], _, k, e => by rw [show _ = [] from e]; rfl
  | w :: ws, _, k, ⟨z, r, e, e1, e2, e3⟩ => by rw [e, List.any_cons, List.any_cons, e1, e3.any]
theorem PZ.repl {k : κ} {v : V} {d : D} (h : Rep K mg F d v) : ∀ {ws : List (κ × V)} {zs : List (κ × D)}, PZ K mg F ws zs → PZ K mg F (ws.map fun kv => if kv.1 = k then (kv.1, v) else kv) (zs.map fun kv => if kv.1 = k then (kv.1, d) else kv)
  | [], _, e => by rw [show _ = [] from e]; rfl
  | w :: ws, _, ⟨z, r, e, e1, e2, e3⟩ => by
    subst e
    refine ⟨_, _, List.map_cons, ?_, ?_, PZ.repl h e3⟩
    · show (if w.1 = k then (w.1, v) else w).1 = _
      by_cases q : w.1 = k
      · rw [if_pos q, if_pos (e1 ▸ q)]; exact e1
      · rw [if_neg q, if_neg (fun z => q (e1.trans z))]; exact e1
    · show Rep K mg F _ (if w.1 = k then (w.1, v) else w).2
      by_cases q : w.1 = k
      · rw [if_pos q, if_pos (e1 ▸ q)]; exact h
      · rw [if_neg q, if_neg (fun z => q (e1.trans z))]; exact e2
theorem PZ.snoc {k : κ} {v : V} {d : D} (h : Rep K mg F d v) : ∀ {ws : List (κ × V)} {zs : List (κ × D)}, PZ K mg F ws zs → PZ K mg F (ws ++ [(k, v)]) (zs ++ [(k, d)])
  | [], _, e => by rw [show _ = [] from e]; exact ⟨_, _, rfl, rfl, h, rfl⟩
  | w :: ws, _, ⟨z, r, e, e1, e2, e3⟩ => by subst e; exact ⟨_, _, rfl, e1, e2, PZ.snoc h e3⟩
theorem PZ.put {k : κ} {v : V} {d : D} (h : Rep K mg F d v) {ws : List (κ × V)} {zs : List (κ × D)} (p : PZ K mg F ws zs) : PZ K mg F (putK ws k v) (putG zs k d) := by
  unfold putK putG
  rw [p.any]
  by_cases q : (zs.any fun kv => decide (kv.1 = k)) = true
  · rw [if_pos q, if_pos q]; exact p.repl h
  · rw [if_neg q, if_neg q]; exact p.snoc h
theorem PZ.drop {k : κ} : ∀ {ws : List (κ × V)} {zs : List (κ × D)}, PZ K mg F ws zs → PZ K mg F (dropK ws k) (dropG zs k)
  | [], _, e => by rw [show _ = [] from e]; rfl
  | w :: ws, _, ⟨z, r, e, e1, e2, e3⟩ => by
    subst e
    have ih := e3.drop (k := k)
    unfold dropK dropG at *
    rw [List.filter_cons, List.filter_cons]
    by_cases q : w.1 = k
    · have a : ¬ decide (w.1 ≠ k) = true := by simp [q]
      have b : ¬ decide (z.1 ≠ k) = true := by simp [e1.symm.trans q]
      rw [if_neg a, if_neg b]; exact ih
    · have q' : ¬ z.1 = k := fun x => q (e1.trans x)
      have a : decide (w.1 ≠ k) = true := by simp [q]
      have b : decide (z.1 ≠ k) = true := by simp [q']
      rw [if_pos a, if_pos b]; exact ⟨_, _, rfl, e1, e2, ih⟩
theorem rep_dkv {ws : List (Key × V)} {zs : List (Key × D)} {a : Addr} (h : F a = some (.dK ws)) (p : PZ K mg F ws zs) : Rep K mg F (dKv zs) (.ref a) := rep_dk.mpr ⟨a, ws, rfl, h, p.fst, p.snd⟩
theorem rep_dtv {ws : List (List Key × V)} {zs : List (List Key × D)} {a : Addr} (h : F a = some (.dT ws)) (p : PZ K mg F ws zs) : Rep K mg F (dTv zs) (.ref a) := rep_dt.mpr ⟨a, ws, rfl, h, p.fst, p.snd⟩
theorem own_dkv {H : Hp} {ws : List (Key × V)} {zs : List (Key × D)} {a : Addr} (h : H a = some (.dK ws)) (p : PZ K mg F ws zs) : OwnAt K mg F H a (dKv zs) := ⟨ws, h, p.fst, p.snd⟩
theorem own_dtv {H : Hp} {ws : List (List Key × V)} {zs : List (List Key × D)} {a : Addr} (h : H a = some (.dT ws)) (p : PZ K mg F ws zs) : OwnAt K mg F H a (dTv zs) := ⟨ws, h, p.fst, p.snd⟩
end

/-! ### keys -/
@[simp] def asK : D → Option Key
  | .int i => some (.inl i)
  | .str s => some (.inr s)
  | _ => none
@[simp] def asKl : List D → Option (List Key)
  | [] => some []
  | d :: ds => (asK d).bind fun k => (asKl ds).map (k :: ·)
def keyD : Key → D
  | .inl i => .int i
  | .inr s => .str s
section
variable {K : PySem.W.Frag} {mg : Str → Option Value} {F H : Hp}
theorem asK_held {d : D} {v : V} {k : Key} (h : Held K mg F H d v) (e : asK d = some k) : v = kV k := by
  cases d <;> try (cases e; done)
  · cases e; exact held_int.mp h
  · cases e; exact held_str.mp h
theorem asK_rep {d : D} {v : V} {k : Key} (h : Rep K mg F d v) (e : asK d = some k) : v = kV k := asK_held (H := fun _ => none) (.inl h) e
theorem asKl_reps : ∀ {ds : List D} {vs : List V} {ks : List Key}, Reps K mg F ds vs → asKl ds = some ks → vs = ks.map kV
  | [], vs, ks, r, e => by cases e; exact reps_nil.mp r
  | d :: ds, vs, ks, r, e => by
    obtain ⟨v, r', rfl, h1, h2⟩ := reps_cons.mp r
    unfold asKl at e
    cases e1 : asK d with
    | none => rw [e1] at e; cases e
    | some k =>
      rw [e1, Option.bind_some] at e
      cases e2 : asKl ds with
      | none => rw [e2] at e; cases e
      | some ks' =>
        rw [e2] at e
        cases e
        rw [asK_rep h1 e1, asKl_reps h2 e2]; rfl
theorem keyD_rep (k : Key) : Rep K mg F (keyD k) (kV k) := by
  cases k with
  | inl i => exact rep_int.mpr rfl
  | inr s => exact rep_str.mpr rfl
theorem keyD_reps : ∀ ks : List Key, Reps K mg F (ks.map keyD) (ks.map kV)
  | [] => reps_nil.mpr rfl
  | k :: ks => reps_cons.mpr ⟨_, _, rfl, keyD_rep k, keyD_reps ks⟩
/-- a tuple that is a key -/
theorem tup_key (sb : Sub F H) {ds : List D} {v : V} {ks : List Key} (h : Held K mg F H (.tup ds) v) (e : asKl ds = some ks) : ∃ b, v = .ref b ∧ H b = some (.tup (ks.map kV)) := by
  rcases h with r | ⟨p, _, o⟩
  · obtain ⟨a, vs, rfl, h1, h2⟩ := rep_tup.mp r
    rw [asKl_reps h2 e] at h1
    exact ⟨a, rfl, sb.rdT _ _ h1⟩
  · exact o.elim
/-- what a dict holds at a key -/
def dgetO : D → D → Option (Option D)
  | .dk ks ds, k => (asK k).map (valG (ks.zip ds))
  | .dt ks ds, .tup kd => (asKl kd).map (valG (ks.zip ds))
  | _, _ => none
/-- an item, or none, on both sides -/
def Hit (K : PySem.W.Frag) (mg : Str → Option Value) (F : Hp) : Option D → Option V → Prop
  | some z, ov => ∃ v, ov = some v ∧ Rep K mg F z v
  | none, ov => ov = none
theorem Hit.isSome : ∀ {o : Option D} {ov : Option V}, Hit K mg F o ov → ov.isSome = o.isSome
  | some _, _, ⟨_, e, _⟩ => by rw [e]; rfl
  | none, _, e => by rw [show _ = none from e]; rfl
theorem PZ.hit {κ : Type} [DecidableEq κ] {ws : List (κ × V)} {zs : List (κ × D)} {k : κ} (p : PZ K mg F ws zs) : Hit K mg F (valG zs k) (valV ws k) := by
  rcases p.val (k := k) with ⟨q1, q2⟩ | ⟨d, v, q1, q2, q3⟩
  · rw [q1]; exact q2
  · rw [q1]; exact ⟨v, q2, q3⟩
theorem dget_ok (sb : Sub F H) {d k : D} {x y : V} {o : Option D} (h1 : Held K mg F H d x) (h2 : Held K mg F H k y) (e : dgetO d k = some o) :
    ∃ a ov, x = .ref a ∧ DGet H a y ov ∧ Hit K mg F o ov := by
  cases d with
  | dk ks ds =>
    have e : (asK k).map (valG (ks.zip ds)) = some o := e
    cases e1 : asK k with
    | none => rw [e1] at e; cases e
    | some kk =>
      rw [e1] at e
      cases e
      obtain ⟨a, ws, rfl, hr, hk, rs⟩ := h1.dk sb
      exact ⟨a, valV ws kk, rfl, .inl ⟨ws, kk, hr, asK_held h2 e1, rfl⟩, (PZ.of hk rs).hit⟩
  | dt ks ds =>
    cases k with
    | tup kd =>
      have e : (asKl kd).map (valG (ks.zip ds)) = some o := e
      cases e1 : asKl kd with
      | none => rw [e1] at e; cases e
      | some kk =>
        rw [e1] at e
        cases e
        obtain ⟨a, ws, rfl, hr, hk, rs⟩ := h1.dt sb
        obtain ⟨b, rfl, hb⟩ := tup_key sb h2 e1
        exact ⟨a, valV ws kk, rfl, .inr ⟨ws, kk, b, hr, rfl, hb, rfl⟩, (PZ.of hk rs).hit⟩
    | _ => cases e
  | _ => cases e
end
section
variable {X : Cx}
def rIxD : R2 := fun x y H Q => ∃ a v, x = .ref a ∧ DGet H a y (some v) ∧ Q v H
theorem ix_dict (hu : X.A.units + 1 < cLine) : IxR X rIxD := by
  intro value slice pins s σ H x y v u Q I rx ry h hs
  obtain ⟨a, z, rfl, g, q⟩ := h
  cases rx
  exact tail_any (dict_typeIs I g) PySem.F.slot_dict_getitem.lookup (d_getItem hu I g ry fun w' s3 I3 rw' => ⟨z, H, I3, rw', q⟩) hs
def rInDict : R2 := fun y x H Q => ∃ a o, x = .ref a ∧ DGet H a y o ∧ Q (.bl o.isSome) H
def rNotInDict : R2 := fun y x H Q => ∃ a o, x = .ref a ∧ DGet H a y o ∧ Q (.bl (!o.isSome)) H
theorem op_inDict (hu : X.A.units + 1 < cLine) : OpR X (compareOp .In) rInDict := by
  intro pins s σ H y x u v Q I ry rx h
  obtain ⟨a, o, rfl, g, q⟩ := h
  cases rx
  exact d_in hu I g ry fun s3 I3 => ⟨.bl o.isSome, H, I3, rfl, q⟩
theorem op_notInDict (hu : X.A.units + 1 < cLine) : OpR X (compareOp .NotIn) rNotInDict := by
  intro pins s σ H y x u v Q I ry rx h
  obtain ⟨a, o, rfl, g, q⟩ := h
  cases rx
  exact d_notIn hu I g ry fun s3 I3 => ⟨.bl (!o.isSome), H, I3, rfl, q⟩
/-! ### dicts compared: equal ones of plain items -/
def rEqDR : R2 := fun x y H Q => ∃ a b ks ls, x = .ref a ∧ y = .ref b ∧ Rd H a (.dK ks) ∧ Rd H b (.dK ls) ∧ ks.length = ls.length ∧ (∀ p ∈ ks, valV ls p.1 = some p.2 ∧ flatB p.2 = true) ∧ Q (.bl true) H
def rNeDR : R2 := fun x y H Q => ∃ a b ks ls, x = .ref a ∧ y = .ref b ∧ Rd H a (.dK ks) ∧ Rd H b (.dK ls) ∧ ks.length = ls.length ∧ (∀ p ∈ ks, valV ls p.1 = some p.2 ∧ flatB p.2 = true) ∧ Q (.bl false) H
theorem op_eq_dictR (hu : X.A.units < cLine) : OpR X (compareOp .Eq) rEqDR := by
  intro pins s σ H x y v u Q I rx ry h
  obtain ⟨a, b, ks, ls, rfl, rfl, ea, eb, hlen, hp, q⟩ := h
  obtain rfl : v = Value.ref a := rx
  obtain rfl : u = Value.ref b := ry
  obtain ⟨_, ya, va, ra, da⟩ := dk_rd I.hok ea
  obtain ⟨_, yb, vb, rb, db⟩ := dk_rd I.hok eb
  have hl : va.length = vb.length := by rw [← ra.length, ← rb.length]; exact hlen
  exact PySem.W.keq_eq (knd := mixKind X.prog X.w) (r := true) ya yb da db hu (fun _ => hits_all rb ra hp) (fin_bl I q (by simp [hl]))
theorem op_ne_dictR (hu : X.A.units < cLine) : OpR X (compareOp .NotEq) rNeDR := by
  intro pins s σ H x y v u Q I rx ry h
  obtain ⟨a, b, ks, ls, rfl, rfl, ea, eb, hlen, hp, q⟩ := h
  obtain rfl : v = Value.ref a := rx
  obtain rfl : u = Value.ref b := ry
  obtain ⟨_, ya, va, ra, da⟩ := dk_rd I.hok ea
  obtain ⟨_, yb, vb, rb, db⟩ := dk_rd I.hok eb
  have hl : va.length = vb.length := by rw [← ra.length, ← rb.length]; exact hlen
  exact PySem.W.keq_ne (knd := mixKind X.prog X.w) (r := true) ya yb da db hu (fun _ => hits_all rb ra hp) (fin_bl I q (by simp [hl]))
/-- len(d) -/
theorem call_lenR : CallR X (.builtin "len") (fun xs H Q => ∃ a kvs, xs = [V.ref a] ∧ Rd H a (.dK kvs) ∧ Q (.int kvs.length) H) := by
  intro pins s σ H xs us Q I r h
  obtain ⟨a, kvs, rfl, hd, q⟩ := h
  rw [Vals.ref1 r]
  exact d_len I hd fun t s' I' => ⟨.int kvs.length, H, I', ⟨t, rfl⟩, q⟩
/-- dict(d) -/
theorem call_dictR : CallR X (.type "dict") (fun xs H Q => ∃ a kvs, xs = [V.ref a] ∧ Rd H a (.dK kvs) ∧ ∀ p, H p = none → Q (.ref p) (upd H p (.dK kvs))) := by
  intro pins s σ H xs us Q I r h
  obtain ⟨a, kvs, rfl, hd, q⟩ := h
  rw [Vals.ref1 r]
  exact d_copyOf I hd fun p s' n I' => ⟨.ref p, _, I', rfl, q p n⟩
end
/-- plain and the same -/
def sameF : D → D → Bool
  | .non, .non => true
  | .bl a, .bl b => decide (a = b)
  | .int a, .int b => decide (a = b)
  | .str a, .str b => decide (a = b)
  | _, _ => false
section
variable {K : PySem.W.Frag} {mg : Str → Option Value} {F H : Hp}
theorem sameF_rep {d e : D} {v w : V} (h : sameF d e = true) (h1 : Rep K mg F d v) (h2 : Rep K mg F e w) : v = w ∧ flatB w = true := by
  cases d <;> cases e <;> first | exact Bool.noConfusion h | skip
  · rw [rep_non.mp h1, rep_non.mp h2]; exact ⟨rfl, rfl⟩
  · rw [rep_bl.mp h1, rep_bl.mp h2, of_decide_eq_true h]; exact ⟨rfl, rfl⟩
  · rw [rep_int.mp h1, rep_int.mp h2, of_decide_eq_true h]; exact ⟨rfl, rfl⟩
  · rw [rep_str.mp h1, rep_str.mp h2, of_decide_eq_true h]; exact ⟨rfl, rfl⟩
theorem PZ.mem {κ : Type} [DecidableEq κ] : ∀ {ws : List (κ × V)} {zs : List (κ × D)}, PZ K mg F ws zs → ∀ w ∈ ws, ∃ z ∈ zs, w.1 = z.1 ∧ Rep K mg F z.2 w.2
  | [], _, _, w, h => by cases h
  | u :: ws, _, ⟨z, r, e, e1, e2, e3⟩, w, h => by
    subst e
    rcases List.mem_cons.mp h with rfl | h
    · exact ⟨z, List.mem_cons_self, e1, e2⟩
    · obtain ⟨z', h1, h2⟩ := PZ.mem e3 w h
      exact ⟨z', List.mem_cons_of_mem _ h1, h2⟩
end
/-- dicts that are equal, their items plain -/
def eqDk (d e : D) : Option Bool := match d, e with
  | .dk ks ds, .dk ls es => if (decide (ks.length = ls.length) && (ks.zip ds).all fun p => match valG (ls.zip es) p.1 with | some z => sameF z p.2 | none => false) = true then some true else none
  | _, _ => none
theorem eqDk_ok {K : PySem.W.Frag} {mg : Str → Option Value} {F H : Hp} (sb : Sub F H) {d1 d2 : D} {v1 v2 : V} {b : Bool} (h1 : Held K mg F H d1 v1) (h2 : Held K mg F H d2 v2) (e : eqDk d1 d2 = some b) :
    b = true ∧ ∃ a c ks ls, v1 = .ref a ∧ v2 = .ref c ∧ Rd H a (.dK ks) ∧ Rd H c (.dK ls) ∧ ks.length = ls.length ∧ ∀ p ∈ ks, valV ls p.1 = some p.2 ∧ flatB p.2 = true := by
  unfold eqDk at e
  split at e
  · next ks ds ls es =>
    split at e
    · next hc =>
      cases e
      rw [Bool.and_eq_true] at hc
      obtain ⟨a, ws, rfl, r1, k1, rs1⟩ := h1.dk sb
      obtain ⟨c, us, rfl, r2, k2, rs2⟩ := h2.dk sb
      refine ⟨rfl, a, c, ws, us, rfl, rfl, r1, r2, ?_, fun p hp => ?_⟩
      · have := of_decide_eq_true hc.1
        rw [← k1, ← k2, List.length_map, List.length_map] at this
        exact this
      · obtain ⟨z, hz, e1, e2⟩ := (PZ.of k1 rs1).mem p hp
        have := List.all_eq_true.mp hc.2 z hz
        rcases (PZ.of k2 rs2).val (k := z.1) with ⟨q1, q2⟩ | ⟨d, v, q1, q2, q3⟩
        · rw [q1] at this; cases this
        · rw [q1] at this
          obtain ⟨y1, y2⟩ := sameF_rep this q3 e2
          rw [e1, q2, y1]
          exact ⟨rfl, y2⟩
    · cases e
  · cases e
end Mp

namespace Mp
open PySem PySem.Spec PyProof.Rows L2

/-! ### ints -/
@[simp] def iiD (f : Int → Int → D) : D → D → R D
  | .int i, .int j => .ok (f i j)
  | _, _ => .no
@[simp] def iicD (c : Int → Int → Bool) (f : Int → Int → D) : D → D → R D
  | .int i, .int j => if c i j then .ok (f i j) else .no
  | _, _ => .no
theorem iiD_nx {f : Int → Int → D} (a b : D) : NoEx (iiD f a b) := fun c ns ds h => by
  unfold iiD at h; split at h <;> cases h
theorem iicD_nx {c : Int → Int → Bool} {f : Int → Int → D} (a b : D) : NoEx (iicD c f a b) := fun _ ns ds h => by
  unfold iicD at h
  split at h
  · split at h <;> cases h
  · cases h
theorem iiD_ok {f : Int → Int → D} {a b d : D} (h : iiD f a b = .ok d) : ∃ i j, a = .int i ∧ b = .int j ∧ d = f i j := by
  unfold iiD at h; split at h
  · cases h; exact ⟨_, _, rfl, rfl, rfl⟩
  · cases h
theorem iicD_ok {c : Int → Int → Bool} {f : Int → Int → D} {a b d : D} (h : iicD c f a b = .ok d) : ∃ i j, a = .int i ∧ b = .int j ∧ c i j = true ∧ d = f i j := by
  unfold iicD at h; split at h
  · next i j =>
    split at h
    · cases h; exact ⟨_, _, rfl, rfl, by assumption, rfl⟩
    · cases h
  · cases h
section
variable {X : Cx}
theorem sim_i0 {g : Int → Int → V} {f : Int → Int → D} (h : ∀ K mg F H i j, Held K mg F H (f i j) (g i j)) : Sim2 X (rI0 g) (iiD f) := fun F H d1 d2 v1 v2 d Q sb h1 h2 e q => by
  obtain ⟨i, j, rfl, rfl, rfl⟩ := iiD_ok e
  exact ⟨i, j, held_int.mp h1, held_int.mp h2, q _ (h _ _ _ _ i j)⟩
theorem sim_i {C : Int → Int → Prop} {c : Int → Int → Bool} {g : Int → Int → V} {f : Int → Int → D} (hc : ∀ i j, c i j = true → C i j) (h : ∀ K mg F H i j, Held K mg F H (f i j) (g i j)) : Sim2 X (rI C g) (iicD c f) := fun F H d1 d2 v1 v2 d Q sb h1 h2 e q => by
  obtain ⟨i, j, rfl, rfl, k, rfl⟩ := iicD_ok e
  exact ⟨i, j, held_int.mp h1, held_int.mp h2, hc i j k, q _ (h _ _ _ _ i j)⟩
theorem hi (f : Int → Int → Int) : ∀ (K : PySem.W.Frag) (mg : Str → Option Value) F H (i j : Int), Held K mg F H (.int (f i j)) (.int (f i j)) := fun _ _ _ _ _ _ => held_int.mpr rfl
theorem hb (f : Int → Int → Bool) : ∀ (K : PySem.W.Frag) (mg : Str → Option Value) F H (i j : Int), Held K mg F H (.bl (f i j)) (.bl (f i j)) := fun _ _ _ _ _ _ => held_bl.mpr rfl
end
/-- ints and texts are added -/
@[simp] def addD : D → D → R D
  | .int i, .int j => .ok (.int (i + j))
  | .str i, .str j => if i.length + j.length ≤ sizeLine then .ok (.str (i ++ j)) else .no
  | _, _ => .no
@[simp] def subD : D → D → R D := iiD fun i j => .int (i - j)
noncomputable def mulOk (i j : Int) : Bool := guardB (IntMulOk i j)
@[simp] noncomputable def mulD : D → D → R D := iicD mulOk fun i j => .int (i * j)
noncomputable def divOk (i j : Int) : Bool := guardB (0 < j ∧ Builtin.divisionGoesByPylong i j = false)
@[simp] noncomputable def divD : D → D → R D := iicD divOk fun i j => .int (i / j)
@[simp] def modD : D → D → R D := iicD (fun _ j => decide (0 < j)) fun i j => .int (i % j)
noncomputable def powOk (i j : Int) : Bool := guardB (0 ≤ j ∧ (Builtin.Int.intBits i : Int) * j ≤ 2 ^ 27)
@[simp] noncomputable def powD : D → D → R D := iicD powOk fun i j => .int (i ^ j.toNat)
noncomputable def shlOk (i j : Int) : Bool := guardB (0 ≤ j ∧ (Builtin.Int.intBits i : Int) + j ≤ 2 ^ 27)
@[simp] noncomputable def shlD : D → D → R D := iicD shlOk fun i j => .int (i * 2 ^ j.toNat)
@[simp] def shrD : D → D → R D := iicD (fun _ j => decide (0 ≤ j)) fun i j => .int (i / 2 ^ j.toNat)
@[simp] def andD : D → D → R D := iiD fun i j => .int (Builtin.bitAnd i j)
@[simp] def xorD : D → D → R D := iiD fun i j => .int (Builtin.bitXor i j)
@[simp] def cmpD (p : Int → Int → Bool) : D → D → R D := iiD fun i j => .bl (p i j)
@[simp] def ltD : D → D → R D := cmpD fun i j => decide (i < j)
@[simp] def leD : D → D → R D := cmpD fun i j => decide (i ≤ j)
@[simp] def gtD : D → D → R D := cmpD fun i j => decide (j < i)
@[simp] def geD : D → D → R D := cmpD fun i j => decide (j ≤ i)

/-! ### == of plain data -/
mutual
def toPy : D → Option PyData
  | .non => some .none
  | .bl b => some (.bool b)
  | .int i => some (.int i)
  | .str x => some (.str x)
  | .tup ds => (toPys ds).map .tuple
  | .lst ds => (toPys ds).map .list
  | .wt ds => (toPys ds).map .tuple
  | _ => none
def toPys : List D → Option (List PyData)
  | [] => some []
  | d :: ds => (toPy d).bind fun p => (toPys ds).map (p :: ·)
end
section
variable {K : PySem.W.Frag} {mg : Str → Option Value} {F H : Hp}
mutual
theorem dp_of (sb : Sub F H) : ∀ {d : D} {v : V} {p : PyData}, Rep K mg F d v → toPy d = some p → Dp K H v p
  | .non, v, p, r, e => by rw [rep_non.mp r]; unfold toPy at e; cases e; exact .non
  | .bl b, v, p, r, e => by rw [rep_bl.mp r]; unfold toPy at e; cases e; exact .bl b
  | .int b, v, p, r, e => by rw [rep_int.mp r]; unfold toPy at e; cases e; exact .int b
  | .str b, v, p, r, e => by rw [rep_str.mp r]; unfold toPy at e; cases e; exact .str b
  | .tup ds, v, p, r, e => by
    obtain ⟨a, vs, rfl, h1, h2⟩ := rep_tup.mp r
    unfold toPy at e
    cases e1 : toPys ds with
    | none => rw [e1] at e; cases e
    | some ps => rw [e1] at e; cases e; exact .tup (h1.sq sb) (dps_of sb h2 e1)
  | .lst ds, v, p, r, e => by
    obtain ⟨a, vs, rfl, h1, h2⟩ := rep_lst.mp r
    unfold toPy at e
    cases e1 : toPys ds with
    | none => rw [e1] at e; cases e
    | some ps => rw [e1] at e; cases e; exact .lst (h1.sq sb) (dps_of sb h2 e1)
  | .dk ks ds, v, p, r, e => by unfold toPy at e; cases e
  | .dt ks ds, v, p, r, e => by unfold toPy at e; cases e
  | .obj c ns ds, v, p, r, e => by unfold toPy at e; cases e
  | .sq _, v, p, r, e => by unfold toPy at e; cases e
  | .exc _, v, p, r, e => by unfold toPy at e; cases e
  | .cel _ _, v, p, r, e => by unfold toPy at e; cases e
  | .wt ds, v, p, r, e => by
    obtain ⟨a, vs, rfl, h1, h2⟩ := rep_wt.mp r
    unfold toPy at e
    cases e1 : toPys ds with
    | none => rw [e1] at e; cases e
    | some ps => rw [e1] at e; cases e; exact .tup h1.sq (dps_of sb h2 e1)
theorem dps_of (sb : Sub F H) : ∀ {ds : List D} {vs : List V} {ps : List PyData}, Reps K mg F ds vs → toPys ds = some ps → DpAll K H vs ps
  | [], vs, ps, r, e => by rw [reps_nil.mp r]; unfold toPys at e; cases e; exact .nil
  | d :: ds, vs, ps, r, e => by
    obtain ⟨v, rs, rfl, h1, h2⟩ := reps_cons.mp r
    unfold toPys at e
    cases e1 : toPy d with
    | none => rw [e1] at e; cases e
    | some p1 =>
      rw [e1, Option.bind_some] at e
      cases e2 : toPys ds with
      | none => rw [e2] at e; cases e
      | some p2 => rw [e2] at e; cases e; exact .cons (dp_of sb h1 e1) (dps_of sb h2 e2)
end
theorem dp_held (sb : Sub F H) {d : D} {v : V} {p : PyData} (h : Held K mg F H d v) (e : toPy d = some p) : Dp K H v p := by
  rcases h with r | ⟨q, rfl, o⟩
  · exact dp_of sb r e
  · cases d with
    | lst ds =>
      obtain ⟨vs, h1, h2⟩ := o
      unfold toPy at e
      cases e1 : toPys ds with
      | none => rw [e1] at e; cases e
      | some ps => rw [e1] at e; cases e; exact .lst (.inl (.inl h1)) (dps_of sb h2 e1)
    | dk ks ds => unfold toPy at e; cases e
    | dt ks ds => unfold toPy at e; cases e
    | obj c ns ds => unfold toPy at e; cases e
    | cel _ _ => unfold toPy at e; cases e
    | _ => exact o.elim
end
def eqR (d e : D) : Option Bool := match toPy d, toPy e with
  | some p, some q => if SeqAt.shaped p && SeqAt.shaped q then some (PyData.eqv p q) else none
  | _, _ => none
@[simp] def eqD (d e : D) : R D := match eqR d e with
  | some b => .ok (.bl b)
  | none => match eqDk d e with
    | some b => .ok (.bl b)
    | none => .no
@[simp] def neD (d e : D) : R D := match eqR d e with
  | some b => .ok (.bl !b)
  | none => match eqDk d e with
    | some b => .ok (.bl !b)
    | none => .no
theorem eqD_nx (a b : D) : NoEx (eqD a b) := fun c ns ds h => by
  unfold eqD at h
  split at h
  · cases h
  · split at h <;> cases h
theorem neD_nx (a b : D) : NoEx (neD a b) := fun c ns ds h => by
  unfold neD at h
  split at h
  · cases h
  · split at h <;> cases h
/-! ### in -/
@[simp] def vD : D → Option V
  | .non => some .non | .bl b => some (.bl b) | .int i => some (.int i) | .str s => some (.str s) | _ => none
@[simp] def vDs : List D → Option (List V)
  | [] => some []
  | d :: ds => (vD d).bind fun v => (vDs ds).map (v :: ·)
def strIn (x z : Str) : Bool := !(Builtin.Str.occurrences z x 0 z.length 1).isEmpty
def inO (k c : D) : Option Bool := match c with
  | .lst ds => (toPy k).bind fun p => (toPys ds).bind fun ps => if SeqAt.shaped p && SeqAt.shaped (.list ps) then some (ps.any fun z => PyData.eqv z p) else none
  | .tup ds => (vD k).bind fun v => (vDs ds).map fun vs => inV v vs
  | .wt ds => (vD k).bind fun v => (vDs ds).map fun vs => inV v vs
  | .str z => match k with | .str x => some (strIn x z) | _ => none
  | c => (dgetO c k).map (·.isSome)
@[simp] def inD (k c : D) : R D := match inO k c with | some b => .ok (.bl b) | none => .no
@[simp] def notInD (k c : D) : R D := match inO k c with | some b => .ok (.bl !b) | none => .no
theorem inD_nx (a b : D) : NoEx (inD a b) := fun c ns ds h => by unfold inD at h; split at h <;> cases h
theorem notInD_nx (a b : D) : NoEx (notInD a b) := fun c ns ds h => by unfold notInD at h; split at h <;> cases h
section
variable {K : PySem.W.Frag} {mg : Str → Option Value} {F H : Hp}
theorem vD_held {d : D} {v x : V} (h : Held K mg F H d x) (e : vD d = some v) : x = v ∧ flatV v = true := by
  cases d <;> try (cases e; done)
  · cases e; exact ⟨held_non.mp h, rfl⟩
  · cases e; exact ⟨held_bl.mp h, rfl⟩
  · cases e; exact ⟨held_int.mp h, rfl⟩
  · cases e; exact ⟨held_str.mp h, rfl⟩
theorem vDs_reps : ∀ {ds : List D} {vs xs : List V}, Reps K mg F ds xs → vDs ds = some vs → xs = vs ∧ vs.all flatV = true
  | [], vs, xs, r, e => by cases e; exact ⟨reps_nil.mp r, rfl⟩
  | d :: ds, vs, xs, r, e => by
    obtain ⟨x, r', rfl, h1, h2⟩ := reps_cons.mp r
    unfold vDs at e
    cases e1 : vD d with
    | none => rw [e1] at e; cases e
    | some v =>
      rw [e1, Option.bind_some] at e
      cases e2 : vDs ds with
      | none => rw [e2] at e; cases e
      | some ws =>
        rw [e2] at e
        cases e
        obtain ⟨q1, q2⟩ := vD_held (H := fun _ => none) (.inl h1) e1
        obtain ⟨q3, q4⟩ := vDs_reps h2 e2
        exact ⟨by rw [q1, q3], by rw [List.all_cons, q2, q4]; rfl⟩
end
def rInAll (X : Cx) (neg : Bool) : R2 := fun x y H Q => rIn X.K neg x y H Q ∨ (if neg then rNotInD X.K else rInD X.K) x y H Q ∨ (if neg then rNotInDict else rInDict) x y H Q ∨ ∃ i j, x = .str i ∧ y = .str j ∧ Q (.bl (if neg then !(strIn i j) else strIn i j)) H
section
variable {X : Cx} {W : WX} {a b : Expr} {f h : Rho → R D} {pos : Pos}
theorem op_inAll (hu : X.A.units + 65 < cLine) : OpR X (compareOp .In) (rInAll X false) := op_in_seq.or ((op_inD hu).or ((op_inDict (by omega)).or op_in_str))
theorem op_notInAll (hu : X.A.units + 65 < cLine) : OpR X (compareOp .NotIn) (rInAll X true) := op_notIn_seq.or ((op_notInD hu).or ((op_notInDict (by omega)).or op_notIn_str))
theorem inO_run {neg : Bool} {F H : Hp} {k c : D} {x y : V} {b : Bool} {Q : VK} (sb : Sub F H) (h1 : Held X.K X.mg F H k x) (h2 : Held X.K X.mg F H c y) (e : inO k c = some b) (q : Q (.bl (if neg then !b else b)) H) : rInAll X neg x y H Q := by
  have dict : ∀ {k c : D} {b : Bool}, Held X.K X.mg F H k x → Held X.K X.mg F H c y → (dgetO c k).map (·.isSome) = some b → Q (.bl (if neg then !b else b)) H → rInAll X neg x y H Q := fun {k c b} h1 h2 e q => by
    cases e1 : dgetO c k with
    | none => rw [e1] at e; cases e
    | some o =>
      rw [e1] at e
      cases e
      obtain ⟨a, ov, rfl, g, hh⟩ := dget_ok sb h2 h1 e1
      have := hh.isSome
      refine .inr (.inr (.inl ?_))
      cases neg with
      | true => exact ⟨a, ov, rfl, g, by rw [this]; exact q⟩
      | false => exact ⟨a, ov, rfl, g, by rw [this]; exact q⟩
  have seq : ∀ {ds : List D} {p : Addr} {xs : List V}, (SqL X.K H p xs ∨ SqT X.K H p xs) → Reps X.K X.mg F ds xs → y = .ref p → ((vD k).bind fun v => (vDs ds).map fun vs => inV v vs) = some b → rInAll X neg x y H Q := fun {ds p xs} hs r ey e => by
    cases e1 : vD k with
    | none => rw [e1] at e; cases e
    | some v =>
      cases e2 : vDs ds with
      | none => rw [e1, e2] at e; cases e
      | some vs =>
        rw [e1, e2] at e
        cases e
        obtain ⟨rfl, f1⟩ := vD_held h1 e1
        obtain ⟨rfl, f2⟩ := vDs_reps r e2
        exact .inl ⟨p, xs, ey, hs, f1, f2, q⟩
  cases c with
  | lst ds =>
    have e : ((toPy k).bind fun p => (toPys ds).bind fun ps => if SeqAt.shaped p && SeqAt.shaped (.list ps) then some (ps.any fun z => PyData.eqv z p) else none) = some b := e
    cases e1 : toPy k with
    | none => rw [e1] at e; cases e
    | some p =>
      cases e2 : toPys ds with
      | none => rw [e1, e2] at e; cases e
      | some ps =>
        rw [e1, e2, Option.bind_some, Option.bind_some] at e
        split at e
        · next hs =>
          rw [Bool.and_eq_true] at hs
          cases e
          have hd : Dp X.K H y (.list ps) := dp_held sb h2 (by unfold toPy; rw [e2]; rfl)
          refine .inr (.inl ?_)
          cases neg with
          | true => exact ⟨p, ps, dp_held sb h1 e1, hd, hs.1, hs.2, q⟩
          | false => exact ⟨p, ps, dp_held sb h1 e1, hd, hs.1, hs.2, q⟩
        · cases e
  | tup ds =>
    obtain ⟨p, xs, ey, hq, r⟩ := h2.tup sb
    exact seq (.inr hq) r ey e
  | wt ds =>
    obtain ⟨p, xs, ey, hq, r⟩ := h2.wt
    exact seq (.inr hq.sq) r ey e
  | str z =>
    cases k with
    | str w =>
      cases e
      exact .inr (.inr (.inr ⟨w, z, held_str.mp h1, held_str.mp h2, q⟩))
    | _ => cases e
  | _ => exact dict h1 h2 e q
theorem sim_in : Sim2 X (rInAll X false) inD := fun F H d1 d2 v1 v2 d Q sb h1 h2 e q => by
  unfold inD at e
  cases e1 : inO d1 d2 with
  | none => rw [e1] at e; cases e
  | some b => rw [e1] at e; cases e; exact inO_run sb h1 h2 e1 (q _ (held_bl.mpr rfl))
theorem sim_notIn : Sim2 X (rInAll X true) notInD := fun F H d1 d2 v1 v2 d Q sb h1 h2 e q => by
  unfold notInD at e
  cases e1 : inO d1 d2 with
  | none => rw [e1] at e; cases e
  | some b => rw [e1] at e; cases e; exact inO_run sb h1 h2 e1 (q _ (held_bl.mpr rfl))
theorem room180 {k : Nat} {A : Around} (r : Room k A) : A.units + 180 < cLine := by have := r.un; omega
theorem mv_in (hu : X.A.units + 180 < cLine) (ha : MV X W a f) (hb : MV X W b h) (hm : behindInMarks .In b = false := by rfl) : MV X W (.Compare a [.In] [b] pos) (op2 inD f h) := mv_cmp (op_inAll (by omega)) sim_in inD_nx ha hb hm
theorem mt_in (hu : X.A.units + 180 < cLine) (ha : MV X W a f) (hb : MV X W b h) (hm : behindInMarks .In b = false := by rfl) : MT X W (.Compare a [.In] [b] pos) (toT (op2 inD f h)) := mt_cmp (op_inAll (by omega)) sim_in inD_nx ha hb hm
theorem mv_notIn (hu : X.A.units + 180 < cLine) (ha : MV X W a f) (hb : MV X W b h) (hm : behindInMarks .NotIn b = false := by rfl) : MV X W (.Compare a [.NotIn] [b] pos) (op2 notInD f h) := mv_cmp (op_notInAll (by omega)) sim_notIn notInD_nx ha hb hm
theorem mt_notIn (hu : X.A.units + 180 < cLine) (ha : MV X W a f) (hb : MV X W b h) (hm : behindInMarks .NotIn b = false := by rfl) : MT X W (.Compare a [.NotIn] [b] pos) (toT (op2 notInD f h)) := mt_cmp (op_notInAll (by omega)) sim_notIn notInD_nx ha hb hm
end
@[simp] def isD : D → D → R D
  | .bl a, .bl b => .ok (.bl (decide (a = b)))
  | _, _ => .no
section
variable {X : Cx} {W : WX} {a b e : Expr} {f h : Rho → R D} {m : Rho → R Sl} {fs : Rho → R (List D)} {pos p : Pos}
theorem eqR_ok {d1 d2 : D} {k : Bool} (e : eqR d1 d2 = some k) : ∃ p q, toPy d1 = some p ∧ toPy d2 = some q ∧ SeqAt.shaped p = true ∧ SeqAt.shaped q = true ∧ k = PyData.eqv p q := by
  unfold eqR at e
  split at e
  · next p q e1 e2 =>
    split at e
    · next hs => rw [Bool.and_eq_true] at hs; cases e; exact ⟨p, q, e1, e2, hs.1, hs.2, rfl⟩
    · cases e
  · cases e
theorem sim_eq : Sim2 X (fun x y H Q => rEqD X.K x y H Q ∨ rEqDR x y H Q) eqD := fun F H d1 d2 v1 v2 d Q sb h1 h2 e q => by
  unfold eqD at e
  cases e0 : eqR d1 d2 with
  | none =>
    rw [e0] at e
    have e : (match eqDk d1 d2 with | some b => R.ok (.bl b) | none => R.no) = R.ok d := e
    cases e3 : eqDk d1 d2 with
    | none => rw [e3] at e; cases e
    | some k =>
      rw [e3] at e; cases e
      obtain ⟨rfl, a, c, ks, ls, z1, z2, z3, z4, z5, z6⟩ := eqDk_ok sb h1 h2 e3
      exact .inr ⟨a, c, ks, ls, z1, z2, z3, z4, z5, z6, q _ (held_bl.mpr rfl)⟩
  | some k =>
    rw [e0] at e; cases e
    obtain ⟨p, r, e1, e2, s1, s2, rfl⟩ := eqR_ok e0
    exact .inl ⟨p, r, dp_held sb h1 e1, dp_held sb h2 e2, s1, s2, q _ (held_bl.mpr rfl)⟩
theorem sim_ne : Sim2 X (fun x y H Q => rNeD X.K x y H Q ∨ rNeDR x y H Q) neD := fun F H d1 d2 v1 v2 d Q sb h1 h2 e q => by
  unfold neD at e
  cases e0 : eqR d1 d2 with
  | none =>
    rw [e0] at e
    have e : (match eqDk d1 d2 with | some b => R.ok (.bl (!b)) | none => R.no) = R.ok d := e
    cases e3 : eqDk d1 d2 with
    | none => rw [e3] at e; cases e
    | some k =>
      rw [e3] at e; cases e
      obtain ⟨rfl, a, c, ks, ls, z1, z2, z3, z4, z5, z6⟩ := eqDk_ok sb h1 h2 e3
      exact .inr ⟨a, c, ks, ls, z1, z2, z3, z4, z5, z6, q _ (held_bl.mpr rfl)⟩
  | some k =>
    rw [e0] at e; cases e
    obtain ⟨p, r, e1, e2, s1, s2, rfl⟩ := eqR_ok e0
    exact .inl ⟨p, r, dp_held sb h1 e1, dp_held sb h2 e2, s1, s2, q _ (held_bl.mpr rfl)⟩
theorem addD_nx (a b : D) : NoEx (addD a b) := fun c ns ds h => by
  unfold addD at h
  split at h
  · cases h
  · split at h <;> cases h
  · cases h
theorem sim_add : Sim2 X (fun x y H Q => rI0 (fun i j => .int (i + j)) x y H Q ∨ ∃ i j, x = .str i ∧ y = .str j ∧ i.length + j.length ≤ sizeLine ∧ Q (.str (i ++ j)) H) addD := fun F H d1 d2 v1 v2 d Q sb h1 h2 e q => by
  unfold addD at e
  split at e
  · cases e
    exact .inl ⟨_, _, held_int.mp h1, held_int.mp h2, q _ (held_int.mpr rfl)⟩
  · split at e
    · next hl => cases e; exact .inr ⟨_, _, held_str.mp h1, held_str.mp h2, hl, q _ (held_str.mpr rfl)⟩
    · cases e
  · cases e
theorem mv_add (ha : MV X W a f) (hb : MV X W b h) : MV X W (.BinOp a .Add b pos) (op2 addD f h) := mv_op (op_add.or op_add_str) sim_add addD_nx ha hb
theorem mv_sub (ha : MV X W a f) (hb : MV X W b h) : MV X W (.BinOp a .Sub b pos) (op2 subD f h) := mv_op op_sub (sim_i0 (hi _)) iiD_nx ha hb
theorem op_mulG : OpR X (binaryOp .Mult) (rI (fun i j => mulOk i j = true) fun i j => .int (i * j)) := opI fun _ _ _ _ _ _ _ hc q => PyProof.Rows.mul_int q (guardB_iff.mp hc)
theorem op_powG : OpR X (binaryOp .Pow) (rI (fun i j => powOk i j = true) fun i j => .int (i ^ j.toNat)) := opI fun _ _ _ _ _ _ _ hc q => PyProof.Rows.pow_int (guardB_iff.mp hc).1 (guardB_iff.mp hc).2 q
theorem mv_mul (ha : MV X W a f) (hb : MV X W b h) : MV X W (.BinOp a .Mult b pos) (op2 mulD f h) := mv_op op_mulG (sim_i (fun i j e => e) (hi _)) iicD_nx ha hb
theorem op_fdivM : OpR X (binaryOp .FloorDiv) (rI (fun i j => divOk i j = true) fun i j => .int (i / j)) := opI fun i j _ _ _ _ _ hc q => by
  obtain ⟨h1, h2⟩ := guardB_iff.mp hc
  exact floordiv_int (by omega) (by rw [Int.fdiv_eq_ediv_of_nonneg i (by omega)]; exact q) (.inl h2)
theorem mv_div (ha : MV X W a f) (hb : MV X W b h) : MV X W (.BinOp a .FloorDiv b pos) (op2 divD f h) := mv_op op_fdivM (sim_i (fun i j e => e) (hi _)) iicD_nx ha hb
theorem mv_mod (ha : MV X W a f) (hb : MV X W b h) : MV X W (.BinOp a .Mod b pos) (op2 modD f h) := mv_op op_mod (sim_i (fun i j e => of_decide_eq_true e) (hi _)) iicD_nx ha hb
theorem mv_pow (ha : MV X W a f) (hb : MV X W b h) : MV X W (.BinOp a .Pow b pos) (op2 powD f h) := mv_op op_powG (sim_i (fun i j e => e) (hi _)) iicD_nx ha hb
theorem mv_shl (ha : MV X W a f) (hb : MV X W b h) : MV X W (.BinOp a .LShift b pos) (op2 shlD f h) := mv_op op_shlW (sim_i (fun i j e => (show CShl i j from guardB_iff.mp e)) (hi _)) iicD_nx ha hb
theorem mv_shr (ha : MV X W a f) (hb : MV X W b h) : MV X W (.BinOp a .RShift b pos) (op2 shrD f h) := mv_op op_shr (sim_i (fun i j e => of_decide_eq_true e) (hi _)) iicD_nx ha hb
theorem mv_and2 (ha : MV X W a f) (hb : MV X W b h) : MV X W (.BinOp a .BitAnd b pos) (op2 andD f h) := mv_op op_and (sim_i0 (hi _)) iiD_nx ha hb
theorem mv_xor (ha : MV X W a f) (hb : MV X W b h) : MV X W (.BinOp a .BitXor b pos) (op2 xorD f h) := mv_op op_xor (sim_i0 (hi _)) iiD_nx ha hb
theorem mv_lt (ha : MV X W a f) (hb' : MV X W b h) : MV X W (.Compare a [.Lt] [b] pos) (op2 ltD f h) := mv_cmp op_lt (sim_i0 (hb _)) iiD_nx ha hb' (nomark _)
theorem mv_le (ha : MV X W a f) (hb' : MV X W b h) : MV X W (.Compare a [.LtE] [b] pos) (op2 leD f h) := mv_cmp op_le (sim_i0 (hb _)) iiD_nx ha hb' (nomark _)
theorem mv_gt (ha : MV X W a f) (hb' : MV X W b h) : MV X W (.Compare a [.Gt] [b] pos) (op2 gtD f h) := mv_cmp op_gt (sim_i0 (hb _)) iiD_nx ha hb' (nomark _)
theorem mv_ge (ha : MV X W a f) (hb' : MV X W b h) : MV X W (.Compare a [.GtE] [b] pos) (op2 geD f h) := mv_cmp op_ge (sim_i0 (hb _)) iiD_nx ha hb' (nomark _)
theorem mt_lt (ha : MV X W a f) (hb' : MV X W b h) : MT X W (.Compare a [.Lt] [b] pos) (toT (op2 ltD f h)) := mt_cmp op_lt (sim_i0 (hb _)) iiD_nx ha hb' (nomark _)
theorem mt_le (ha : MV X W a f) (hb' : MV X W b h) : MT X W (.Compare a [.LtE] [b] pos) (toT (op2 leD f h)) := mt_cmp op_le (sim_i0 (hb _)) iiD_nx ha hb' (nomark _)
theorem mt_gt (ha : MV X W a f) (hb' : MV X W b h) : MT X W (.Compare a [.Gt] [b] pos) (toT (op2 gtD f h)) := mt_cmp op_gt (sim_i0 (hb _)) iiD_nx ha hb' (nomark _)
theorem mt_ge (ha : MV X W a f) (hb' : MV X W b h) : MT X W (.Compare a [.GtE] [b] pos) (toT (op2 geD f h)) := mt_cmp op_ge (sim_i0 (hb _)) iiD_nx ha hb' (nomark _)
theorem mv_eq (hu : X.A.units + 64 < cLine) (ha : MV X W a f) (hb : MV X W b h) : MV X W (.Compare a [.Eq] [b] pos) (op2 eqD f h) := mv_cmp ((op_eqD hu).or (op_eq_dictR (by omega))) sim_eq eqD_nx ha hb (nomark _)
theorem mv_ne (hu : X.A.units + 64 < cLine) (ha : MV X W a f) (hb : MV X W b h) : MV X W (.Compare a [.NotEq] [b] pos) (op2 neD f h) := mv_cmp ((op_neD hu).or (op_ne_dictR (by omega))) sim_ne neD_nx ha hb (nomark _)
theorem mt_eq (hu : X.A.units + 64 < cLine) (ha : MV X W a f) (hb : MV X W b h) : MT X W (.Compare a [.Eq] [b] pos) (toT (op2 eqD f h)) := mt_cmp ((op_eqD hu).or (op_eq_dictR (by omega))) sim_eq eqD_nx ha hb (nomark _)
theorem mt_ne (hu : X.A.units + 64 < cLine) (ha : MV X W a f) (hb : MV X W b h) : MT X W (.Compare a [.NotEq] [b] pos) (toT (op2 neD f h)) := mt_cmp ((op_neD hu).or (op_ne_dictR (by omega))) sim_ne neD_nx ha hb (nomark _)
theorem isD_nx (a b : D) : NoEx (isD a b) := fun c ns ds h => by unfold isD at h; split at h <;> cases h
theorem sim_is : Sim2 X rIsB isD := fun F H d1 d2 v1 v2 d Q sb h1 h2 e q => by
  unfold isD at e
  split at e
  · next x y =>
    cases e
    exact ⟨x, y, held_bl.mp h1, held_bl.mp h2, by
      refine q _ (held_bl.mpr ?_)
      first | rfl | (congr 1; cases x <;> cases y <;> rfl)⟩
  · cases e
theorem mv_is (ha : MV X W a f) (hb : MV X W b h) : MV X W (.Compare a [.Is] [b] pos) (op2 isD f h) := mv_cmp op_isBl sim_is isD_nx ha hb (nomark _)
theorem mt_is (ha : MV X W a f) (hb : MV X W b h) : MT X W (.Compare a [.Is] [b] pos) (toT (op2 isD f h)) := mt_cmp op_isBl sim_is isD_nx ha hb (nomark _)
/-- -x -/
@[simp] def negD : D → R D
  | .int i => .ok (.int (-i))
  | _ => .no
theorem mv_neg (ha : MV X W a f) : MV X W (.UnaryOp .USub a pos) (op1 negD f) := by
  refine pe_imp (pe_un un_neg ha) fun σ H Q ⟨F, ρ, gd, q⟩ => ?_
  show tV X.K X.mg W f σ H fun x H1 => rU (fun i => .int (-i)) x H1 Q
  refine tV_then (P := fun F H => BPost X.K X.mg W F H σ Q) gd q (fun _ _ _ z => z) (fun z => z) (fun F' H' r x z => z.ext x) fun d v F' H' _ x g' r z => ?_
  cases d with
  | int i => exact ⟨i, held_int.mp r, z _ F' H' (.refl g'.sub) (held_int.mpr rfl)⟩
  | _ => exact z.elim

/-! ### calls of built-ins -/
def SimC (X : Cx) (r : List V → Hp → VK → Prop) (g : List D → R D) : Prop := ∀ F H ds vs d (Q : VK), Sub F H → Helds X.K X.mg F H ds vs → g ds = .ok d → (∀ v, Held X.K X.mg F H d v → Q v H) → r vs H Q
def SimCS (X : Cx) (r : List V → Hp → VK → Prop) (g : List D → R Sl) : Prop := ∀ F H ds vs s (Q : VK), Sub F H → Helds X.K X.mg F H ds vs → g ds = .ok s → (∀ v F' H', Ext F H F' H' → Res X.K X.mg H F' H' s v → Q v H') → r vs H Q
@[simp] def opL (g : List D → R D) (fs : Rho → R (List D)) : Rho → R D := fun ρ => (fs ρ).bind g
@[simp] def opLS (g : List D → R Sl) (fs : Rho → R (List D)) : Rho → R Sl := fun ρ => (fs ρ).bind g
variable {x : Str} {id T : String} {es : List Expr}
theorem mv_callB {r : List V → Hp → VK → Prop} {g : List D → R D} (hc : CallR X (.builtin id) r) (hs : SimC X r g) (hn : ∀ ds, NoEx (g ds)) (hm : X.mg x = none) (hv : bootBuiltins x = some (.builtin id)) (ha : ML X W (e :: es) fs) (hg : Gl X x := by rfl)
    (hnn : x ≠ "__name__" := by decide) (hdb : (x == ("__debug__" : Str)) = false := by decide) (he : starEach (e :: es) X.env = (false, eval e X.env) :: starEach es X.env := by rfl) (hpl : (backTo pos (starEach es X.env)).any (·.1) = false := by rfl) :
    MV X W (.Call (.Name x p) (e :: es) [] pos) (opL g fs) := by
  refine pe_imp (pe_callB hc hg hm hv ha hnn hdb he hpl) fun σ H Q ⟨F, ρ, gd, q⟩ => ?_
  refine tL_then (P := fun F H => BPost X.K X.mg W F H σ Q) gd q (fun _ _ _ z => z) (fun z => z) (fun F' H' r x z => z.ext x) fun d v F' H' _ x g' r z => ?_
  cases e1 : g d with
  | ok d' => rw [e1] at z; exact hs F' H' d v d' Q g'.sub r e1 fun v hv => z v F' H' (.refl g'.sub) hv
  | ex c ns ds => exact (hn d c ns ds e1).elim
  | no => rw [e1] at z; exact z.elim
theorem me_callB {r : List V → Hp → VK → Prop} {g : List D → R Sl} (hc : CallR X (.builtin id) r) (hs : SimCS X r g) (hn : ∀ ds, NoEx (g ds)) (hm : X.mg x = none) (hv : bootBuiltins x = some (.builtin id)) (ha : ML X W (e :: es) fs) (hg : Gl X x := by rfl)
    (hnn : x ≠ "__name__" := by decide) (hdb : (x == ("__debug__" : Str)) = false := by decide) (he : starEach (e :: es) X.env = (false, eval e X.env) :: starEach es X.env := by rfl) (hpl : (backTo pos (starEach es X.env)).any (·.1) = false := by rfl) :
    ME X W (.Call (.Name x p) (e :: es) [] pos) (opLS g fs) := by
  refine pe_imp (pe_callB hc hg hm hv ha hnn hdb he hpl) fun σ H Q ⟨F, ρ, gd, q⟩ => ?_
  refine tL_then (P := fun F H => EPost X.K X.mg W F H σ Q) gd q (fun _ _ _ z => z) (fun z => z) (fun F' H' r x z => z.ext x) fun d v F' H' _ x g' r z => ?_
  cases e1 : g d with
  | ok d' => rw [e1] at z; exact hs F' H' d v d' Q g'.sub r e1 fun v F2 H2 x2 hv => z v F2 H2 x2 hv
  | ex c ns ds => exact (hn d c ns ds e1).elim
  | no => rw [e1] at z; exact z.elim
theorem mv_callTy {r : List V → Hp → VK → Prop} {g : List D → R D} (hc : CallR X (.type T) r) (hs : SimC X r g) (hn : ∀ ds, NoEx (g ds)) (hm : X.mg x = none) (hv : bootBuiltins x = some (.type T)) (ha : ML X W (e :: es) fs) (hg : Gl X x := by rfl)
    (hnn : x ≠ "__name__" := by decide) (hdb : (x == ("__debug__" : Str)) = false := by decide) (he : starEach (e :: es) X.env = (false, eval e X.env) :: starEach es X.env := by rfl) (hpl : (backTo pos (starEach es X.env)).any (·.1) = false := by rfl) :
    MV X W (.Call (.Name x p) (e :: es) [] pos) (opL g fs) := by
  refine pe_imp (pe_callTy hc hg hm hv ha hnn hdb he hpl) fun σ H Q ⟨F, ρ, gd, q⟩ => ?_
  refine tL_then (P := fun F H => BPost X.K X.mg W F H σ Q) gd q (fun _ _ _ z => z) (fun z => z) (fun F' H' r x z => z.ext x) fun d v F' H' _ x g' r z => ?_
  cases e1 : g d with
  | ok d' => rw [e1] at z; exact hs F' H' d v d' Q g'.sub r e1 fun v hv => z v F' H' (.refl g'.sub) hv
  | ex c ns ds => exact (hn d c ns ds e1).elim
  | no => rw [e1] at z; exact z.elim
theorem me_callTy {r : List V → Hp → VK → Prop} {g : List D → R Sl} (hc : CallR X (.type T) r) (hs : SimCS X r g) (hn : ∀ ds, NoEx (g ds)) (hm : X.mg x = none) (hv : bootBuiltins x = some (.type T)) (ha : ML X W (e :: es) fs) (hg : Gl X x := by rfl)
    (hnn : x ≠ "__name__" := by decide) (hdb : (x == ("__debug__" : Str)) = false := by decide) (he : starEach (e :: es) X.env = (false, eval e X.env) :: starEach es X.env := by rfl) (hpl : (backTo pos (starEach es X.env)).any (·.1) = false := by rfl) :
    ME X W (.Call (.Name x p) (e :: es) [] pos) (opLS g fs) := by
  refine pe_imp (pe_callTy hc hg hm hv ha hnn hdb he hpl) fun σ H Q ⟨F, ρ, gd, q⟩ => ?_
  refine tL_then (P := fun F H => EPost X.K X.mg W F H σ Q) gd q (fun _ _ _ z => z) (fun z => z) (fun F' H' r x z => z.ext x) fun d v F' H' _ x g' r z => ?_
  cases e1 : g d with
  | ok d' => rw [e1] at z; exact hs F' H' d v d' Q g'.sub r e1 fun v F2 H2 x2 hv => z v F2 H2 x2 hv
  | ex c ns ds => exact (hn d c ns ds e1).elim
  | no => rw [e1] at z; exact z.elim
/-- len of lists, tuples, texts -/
@[simp] def lenD : List D → R D
  | [.lst ds] => .ok (.int ds.length)
  | [.tup ds] => .ok (.int ds.length)
  | [.str z] => if z.length ≤ sizeLine then .ok (.int z.length) else .no
  | [.sq is] => .ok (.int is.length)
  | [.wt ds] => .ok (.int ds.length)
  | [.dk ks _] => .ok (.int ks.length)
  | _ => .no
theorem lenD_nx (ds : List D) : NoEx (lenD ds) := fun c ns es h => by
  unfold lenD at h
  split at h
  · cases h
  · cases h
  · split at h <;> cases h
  · cases h
  · cases h
  · cases h
  · cases h
theorem helds_one {K : PySem.W.Frag} {mg : Str → Option Value} {F H : Hp} {d : D} {vs : List V} (h : Helds K mg F H [d] vs) : ∃ v, vs = [v] ∧ Held K mg F H d v := by
  obtain ⟨v, r, e, h1, h2⟩ := h
  have h2 : r = [] := h2
  subst h2
  exact ⟨v, e, h1⟩
theorem sim_len : SimC X (fun xs H Q => ((∃ p ys, xs = [.ref p] ∧ (SqL X.K H p ys ∨ SqT X.K H p ys) ∧ Q (.int ys.length) H) ∨ ∃ z, xs = [.str z] ∧ z.length ≤ sizeLine ∧ Q (.int z.length) H) ∨ ∃ a kvs, xs = [V.ref a] ∧ Rd H a (.dK kvs) ∧ Q (.int kvs.length) H) lenD := fun F H ds vs d Q sb hs e q => by
  unfold lenD at e
  split at e
  · cases e
    obtain ⟨v, rfl, h⟩ := helds_one hs
    obtain ⟨a, vs, rfl, h1, h2⟩ := h.lst sb
    exact .inl (.inl ⟨a, vs, rfl, .inl h1, q _ (held_int.mpr (by rw [h2.length]))⟩)
  · cases e
    obtain ⟨v, rfl, h⟩ := helds_one hs
    obtain ⟨a, vs, rfl, h1, h2⟩ := h.tup sb
    exact .inl (.inl ⟨a, vs, rfl, .inr h1, q _ (held_int.mpr (by rw [h2.length]))⟩)
  · split at e
    · next hz =>
      cases e
      obtain ⟨v, rfl, h⟩ := helds_one hs
      rw [held_str.mp h]
      exact .inl (.inr ⟨_, rfl, hz, q _ (held_int.mpr rfl)⟩)
    · cases e
  · cases e
    obtain ⟨v, rfl, h⟩ := helds_one hs
    obtain ⟨a, rfl, h1⟩ := h.sq sb
    exact .inl (.inl ⟨a, _, rfl, .inl (h1.sq sb), q _ (held_int.mpr (by rw [List.length_map]))⟩)
  · cases e
    obtain ⟨v, rfl, h⟩ := helds_one hs
    obtain ⟨a, vs, rfl, h1, h2⟩ := h.wt
    exact .inl (.inl ⟨a, vs, rfl, .inr h1.sq, q _ (held_int.mpr (by rw [h2.length]))⟩)
  · cases e
    obtain ⟨v, rfl, h⟩ := helds_one hs
    obtain ⟨a, ws, rfl, h1, h2, _⟩ := h.dk sb
    exact .inr ⟨a, ws, rfl, h1, q _ (held_int.mpr (by rw [← h2, List.length_map]))⟩
  · cases e
theorem mv_len (hm : X.mg "len" = none) (ha : ML X W [e] fs) (hg : Gl X "len" := by rfl) (he : starEach [e] X.env = (false, eval e X.env) :: starEach [] X.env := by rfl) : MV X W (.Call (.Name "len" p) [e] [] pos) (opL lenD fs) :=
  mv_callB ((call_len_seq.or call_len_str).or call_lenR) sim_len lenD_nx hm PySem.boot_len ha hg (by decide) (by decide) he rfl
@[simp] def intD : List D → R D
  | [.int i] => .ok (.int i)
  | [.bl k] => .ok (.int (if k then 1 else 0))
  | _ => .no
theorem intD_nx (ds : List D) : NoEx (intD ds) := fun c ns es h => by unfold intD at h; split at h <;> cases h
theorem sim_int : SimC X (fun xs H Q => (∃ i, xs = [.int i] ∧ Q (.int i) H) ∨ ∃ k, xs = [.bl k] ∧ Q (.int (if k then 1 else 0)) H) intD := fun F H ds vs d Q sb hs e q => by
  unfold intD at e
  split at e
  · cases e
    obtain ⟨v, rfl, h⟩ := helds_one hs
    exact .inl ⟨_, by rw [held_int.mp h], q _ (held_int.mpr rfl)⟩
  · cases e
    obtain ⟨v, rfl, h⟩ := helds_one hs
    exact .inr ⟨_, by rw [held_bl.mp h], q _ (held_int.mpr rfl)⟩
  · cases e
theorem mv_intc (hm : X.mg "int" = none) (ha : ML X W [e] fs) (hg : Gl X "int" := by rfl) (he : starEach [e] X.env = (false, eval e X.env) :: starEach [] X.env := by rfl) : MV X W (.Call (.Name "int" p) [e] [] pos) (opL intD fs) :=
  mv_callTy call_int1 sim_int intD_nx hm (by decide +kernel) ha hg (by decide) (by decide) he rfl
@[simp] def absD : List D → R D
  | [.int i] => .ok (.int (if i < 0 then -i else i))
  | _ => .no
theorem absD_nx (ds : List D) : NoEx (absD ds) := fun c ns es h => by unfold absD at h; split at h <;> cases h
theorem mv_abs (hm : X.mg "abs" = none) (ha : ML X W [e] fs) (hg : Gl X "abs" := by rfl) (he : starEach [e] X.env = (false, eval e X.env) :: starEach [] X.env := by rfl) : MV X W (.Call (.Name "abs" p) [e] [] pos) (opL absD fs) :=
  mv_callB call_abs (fun F H ds vs d Q sb hs e q => by
    unfold absD at e
    split at e
    · cases e
      obtain ⟨v, rfl, h⟩ := helds_one hs
      exact ⟨_, by rw [held_int.mp h], q _ (held_int.mpr rfl)⟩
    · cases e) absD_nx hm (by decide +kernel) ha hg (by decide) (by decide) he rfl
end
end Mp

namespace Mp
open PySem PySem.Spec PyProof.Rows L2

section
variable {F H : Hp} {p : Addr} {u : HO}
theorem ext_new (sb : Sub F H) (n : H p = none) (nt : ∀ vs, u ≠ .tup vs) : Ext F H F (upd H p u) where
  sub := ⟨fun a w e => Rd.keep (fun b o q => by rw [upd_ne (ne_of_none q n)]; exact q) (sb.rd a w e), fun a vs e => by
    by_cases z : a = p
    · subst z; rw [upd_same] at e; cases e; exact (nt _ rfl).elim
    · rw [upd_ne z] at e; exact sb.tup a vs e, fun a vs e => by
    have q := sb.rdT a vs e
    rw [upd_ne (ne_of_none q n)]; exact q⟩
  keep := fun b o q => by rw [upd_ne (ne_of_none q n)]; exact q
  frz := fun _ _ e => e
  new := fun _ _ e => .inl e
theorem ext_tup (sb : Sub F H) (n : H p = none) {vs : List V} : Ext F H (upd F p (.tup vs)) (upd H p (.tup vs)) where
  sub := ⟨fun a w e => by
    by_cases z : a = p
    · subst z; rw [upd_same] at e; cases e; exact .inl upd_same
    · rw [upd_ne z] at e
      exact Rd.keep (fun b o q => by rw [upd_ne (ne_of_none q n)]; exact q) (sb.rd a w e), fun a ws e => by
    by_cases z : a = p
    · subst z; rw [upd_same] at e; cases e; exact upd_same
    · rw [upd_ne z] at e ⊢; exact sb.tup a ws e, fun a ws e => by
    by_cases z : a = p
    · subst z; rw [upd_same] at e; cases e; exact upd_same
    · rw [upd_ne z] at e ⊢; exact sb.rdT a ws e⟩
  keep := fun b o q => by rw [upd_ne (ne_of_none q n)]; exact q
  frz := fun b o q => by rw [upd_ne (ne_of_none q (sb.none n))]; exact q
  new := fun b o q => by
    by_cases z : b = p
    · subst z; exact .inr n
    · rw [upd_ne z] at q; exact .inl q
end
theorem tup_rep {K : PySem.W.Frag} {mg : Str → Option Value} {F H : Hp} {p : Addr} {vs : List V} {ds : List D} (sb : Sub F H) (n : H p = none) (r : Reps K mg F ds vs) : Rep K mg (upd F p (.tup vs)) (.tup ds) (.ref p) :=
  rep_tup.mpr ⟨p, vs, rfl, upd_same, r.mono (ext_tup sb n).frz⟩

/-! ### displays -/
@[simp] def lstF (fs : Rho → R (List D)) : Rho → R Sl := fun ρ => (fs ρ).bind fun ds => if ds.length ≤ sizeLine then .ok (.ow (.lst ds)) else .no
@[simp] def tupF (fs : Rho → R (List D)) : Rho → R Sl := fun ρ => (fs ρ).bind fun ds => if ds.length ≤ sizeLine then .ok (.fz (.tup ds)) else .no
section
variable {X : Cx} {W : WX} {es : List Expr} {fs : Rho → R (List D)} {pos : Pos}
theorem tA_then {β : Type} {k : List D → R β} {P : Hp → Hp → R β → Prop} {Q : List V → Hp → Prop} {K : PySem.W.Frag} {mg : Str → Option Value} {F H : Hp} {ρ : Rho} {σ : SS} (g : GoodM K mg F H ρ σ) (hp : P F H ((fs ρ).bind k))
    (px : ∀ c ns ds, P F H (.ex c ns ds) → XPost K mg W F H σ c ns ds) (pn : ¬ P F H .no) (pe : ∀ F' H' r, Ext F H F' H' → P F H r → P F' H' r)
    (h : ∀ d v F' H', fs ρ = .ok d → Ext F H F' H' → GoodM K mg F' H' ρ σ → Reps K mg F' d v → P F' H' (k d) → Q v H') : tA K mg W fs σ H Q := by
  refine ⟨F, ρ, g, ?_⟩
  cases e : fs ρ with
  | ok d => exact fun v F' H' x r => h d v F' H' e x (g.ext x) r (pe F' H' _ x (by rw [e] at hp; exact hp))
  | ex c ns ds => exact px c ns ds (by rw [e] at hp; exact hp)
  | no => exact pn (by rw [e] at hp; exact hp)
theorem me_lst (ha : MA X W es fs) : ME X W (.List es pos) (lstF fs) := by
  refine pe_imp (pe_lst ha) fun σ H Q ⟨F, ρ, gd, q⟩ => ?_
  refine tA_then (P := fun F H => EPost X.K X.mg W F H σ Q) gd q (fun _ _ _ z => z) (fun z => z) (fun F' H' r x z => z.ext x) fun ds vs F' H' _ x g' r z => ?_
  by_cases hl : ds.length ≤ sizeLine
  · rw [if_pos hl] at z
    refine ⟨by rw [r.length]; exact hl, fun p n => z _ F' (upd H' p (.lst vs)) (ext_new g'.sub n fun _ q => nomatch q) ⟨p, rfl, n, g'.sub.none n, vs, upd_same, r⟩⟩
  · rw [if_neg hl] at z; exact z.elim
theorem me_tup {k} (ha : MA X W es fs) : ME X W (.Tuple es k pos) (tupF fs) := by
  refine pe_imp (pe_tup ha) fun σ H Q ⟨F, ρ, gd, q⟩ => ?_
  refine tA_then (P := fun F H => EPost X.K X.mg W F H σ Q) gd q (fun _ _ _ z => z) (fun z => z) (fun F' H' r x z => z.ext x) fun ds vs F' H' _ x g' r z => ?_
  by_cases hl : ds.length ≤ sizeLine
  · rw [if_pos hl] at z
    refine ⟨by rw [r.length]; exact hl, fun p n => z _ _ _ (ext_tup g'.sub n) (tup_rep g'.sub n r)⟩
  · rw [if_neg hl] at z; exact z.elim
end

/-! ### subscripts -/
@[simp] def ixD : D → D → R D
  | .lst ds, .int i => match atI ds i with | some d => .ok d | none => .no
  | .tup ds, .int i => match atI ds i with | some d => .ok d | none => .no
  | .sq is, .int i => match atI is i with | some k => .ok (.int k) | none => .no
  | .wt ds, .int i => match atI ds i with | some d => .ok d | none => .no
  | .str z, .int i => match atI z.cps.toList i with | some c => if z.length ≤ sizeLine then .ok (.str ⟨#[c]⟩) else .no | none => .no
  | .dk ks ds, k => match dgetO (.dk ks ds) k with | some (some d) => .ok d | _ => .no
  | .dt ks ds, k => match dgetO (.dt ks ds) k with | some (some d) => .ok d | _ => .no
  | .cel _ is, .int i => match atI is i with | some k => .ok (.int k) | none => .no
  | _, _ => .no
theorem ixD_nx (a b : D) : NoEx (ixD a b) := fun c ns ds h => by
  unfold ixD at h
  split at h
  · split at h <;> cases h
  · split at h <;> cases h
  · split at h <;> cases h
  · split at h <;> cases h
  · split at h
    · split at h <;> cases h
    · cases h
  · split at h <;> cases h
  · split at h <;> cases h
  · split at h <;> cases h
  · cases h
@[simp] def ixF (f h : Rho → R D) : Rho → R Sl := fun ρ => (f ρ).bind fun a => (h ρ).bind fun b => (ixD a b).bind fun d => .ok (.fz d)
theorem reps_at {K : PySem.W.Frag} {mg : Str → Option Value} {F : Hp} {ds : List D} {vs : List V} {i : Int} {d : D} (r : Reps K mg F ds vs) (h : atI ds i = some d) : ∃ v, atI vs i = some v ∧ Rep K mg F d v := by
  unfold atI at h ⊢
  rw [r.length]
  cases e : ixN ds.length i with
  | none => rw [e] at h; cases h
  | some j =>
    rw [e] at h
    exact r.get h
section
variable {X : Cx} {W : WX} {a b e : Expr} {f h : Rho → R D} {m : Rho → R Sl} {fs : Rho → R (List D)} {pos p : Pos}
theorem sim_ix : Sim2S X (fun x y H Q => rIx X.K x y H Q ∨ rIxD x y H Q) (fun a b => (ixD a b).bind fun d => .ok (.fz d)) := fun F H d1 d2 v1 v2 s Q sb h1 h2 e q => by
  have e : (ixD d1 d2).bind (fun d => R.ok (Sl.fz d)) = .ok s := e
  have isd : ((match dgetO d1 d2 with | some (some d) => R.ok d | _ => R.no).bind fun d => R.ok (Sl.fz d)) = .ok s → rIx X.K v1 v2 H Q ∨ rIxD v1 v2 H Q := fun e => by
    cases e1 : dgetO d1 d2 with
    | none => rw [e1] at e; cases e
    | some o =>
      cases o with
      | none => rw [e1] at e; cases e
      | some d =>
        rw [e1] at e
        cases e
        obtain ⟨a, ov, rfl, g, v, rfl, rv⟩ := dget_ok sb h1 h2 e1
        exact .inr ⟨a, v, rfl, g, q v F H (.refl sb) rv⟩
  unfold ixD at e
  split at e
  · next ds i _ =>
    cases e1 : atI ds i with
    | none => rw [e1] at e; cases e
    | some d =>
      rw [e1] at e
      cases e
      obtain ⟨a, vs, rfl, hq, r⟩ := h1.lst sb
      obtain ⟨v, hv, rv⟩ := reps_at r e1
      exact .inl <| .inl ⟨a, vs, i, v, rfl, held_int.mp h2, hq, hv, q v F H (.refl sb) rv⟩
  · next ds i _ =>
    cases e1 : atI ds i with
    | none => rw [e1] at e; cases e
    | some d =>
      rw [e1] at e
      cases e
      obtain ⟨a, vs, rfl, hq, r⟩ := h1.tup sb
      obtain ⟨v, hv, rv⟩ := reps_at r e1
      exact .inl <| .inr (.inl ⟨a, vs, i, v, rfl, held_int.mp h2, hq, hv, q v F H (.refl sb) rv⟩)
  · next is i _ =>
    cases e1 : atI is i with
    | none => rw [e1] at e; cases e
    | some k =>
      rw [e1] at e
      cases e
      obtain ⟨a, rfl, hq⟩ := h1.sq sb
      have hv : atI (is.map V.int) i = some (.int k) := by
        unfold atI at e1 ⊢
        rw [List.length_map]
        cases e2 : ixN is.length i with
        | none => rw [e2] at e1; cases e1
        | some j =>
          rw [e2] at e1
          have e1 : is[j]? = some k := e1
          show (is.map V.int)[j]? = _
          rw [List.getElem?_map, e1]; rfl
      exact .inl <| .inl ⟨a, _, i, _, rfl, held_int.mp h2, hq.sq sb, hv, q _ F H (.refl sb) (show Rep X.K X.mg F (.int k) _ from rep_int.mpr rfl)⟩
  · next ds i _ =>
    cases e1 : atI ds i with
    | none => rw [e1] at e; cases e
    | some d =>
      rw [e1] at e
      cases e
      obtain ⟨a, vs, rfl, hq, r⟩ := h1.wt
      obtain ⟨v, hv, rv⟩ := reps_at r e1
      exact .inl <| .inr (.inl ⟨a, vs, i, v, rfl, held_int.mp h2, hq.sq, hv, q v F H (.refl sb) rv⟩)
  · next z i _ =>
    cases e1 : atI z.cps.toList i with
    | none => rw [e1] at e; cases e
    | some c =>
      rw [e1] at e
      have e : ((if z.length ≤ sizeLine then R.ok (D.str { cps := #[c] }) else R.no).bind fun d => R.ok (Sl.fz d)) = R.ok s := e
      by_cases hz : z.length ≤ sizeLine
      · rw [if_pos hz] at e
        cases e
        exact .inl <| .inr (.inr ⟨z, i, c, held_str.mp h1, held_int.mp h2, hz, e1, q _ F H (.refl sb) (show Rep X.K X.mg F (.str _) _ from rep_str.mpr rfl)⟩)
      · rw [if_neg hz] at e; cases e
  · exact isd e
  · exact isd e
  · next p is i _ =>
    cases e1 : atI is i with
    | none => rw [e1] at e; cases e
    | some k =>
      rw [e1] at e
      cases e
      obtain ⟨rfl, hq⟩ := h1.cel sb
      have hv : atI (is.map V.int) i = some (.int k) := by
        unfold atI at e1 ⊢
        rw [List.length_map]
        cases e2 : ixN is.length i with
        | none => rw [e2] at e1; cases e1
        | some j =>
          rw [e2] at e1
          have e1 : is[j]? = some k := e1
          show (is.map V.int)[j]? = _
          rw [List.getElem?_map, e1]; rfl
      exact .inl <| .inl ⟨p, _, i, _, rfl, held_int.mp h2, .inl hq, hv, q _ F H (.refl sb) (show Rep X.K X.mg F (.int k) _ from rep_int.mpr rfl)⟩
  · cases e
theorem bind_nx {r : R D} (h : NoEx r) : NoEx (r.bind fun d => R.ok (Sl.fz d)) := fun c ns ds e => by
  cases r with
  | ok d => cases e
  | ex c' ns' ds' => exact h c' ns' ds' rfl
  | no => cases e
theorem me_ix (hu : X.A.units + 180 < cLine) (ha : MV X W a f) (hb : MV X W b h) (hs : PlainIx b := by exact fun _ _ => rfl) : ME X W (.Subscript a b pos) (ixF f h) := by
  refine pe_imp (pe_ix (ix_seq.or (ix_dict (by omega))) ha hb hs) fun σ H Q ⟨F, ρ, gd, q⟩ => ?_
  refine two_looks (k := fun a b => (ixD a b).bind fun d => R.ok (Sl.fz d)) (P := fun F H => EPost X.K X.mg W F H σ Q) gd (show EPost X.K X.mg W F H σ Q ((f ρ).bind fun a => (h ρ).bind fun b => (ixD a b).bind fun d => R.ok (Sl.fz d)) from q) (fun _ _ _ _ _ z => z) (fun _ _ z => z) (fun _ _ _ _ _ x z => z.ext x) fun d1 d2 v1 v2 F' H' x g' r1 r2 z => ?_
  cases e : (ixD d1 d2).bind fun d => R.ok (Sl.fz d) with
  | ok d => rw [e] at z; exact sim_ix F' H' d1 d2 v1 v2 d Q g'.sub r1 r2 e fun v F2 H2 x2 hv => z v F2 H2 x2 hv
  | ex c ns ds => exact (bind_nx (ixD_nx d1 d2) c ns ds e).elim
  | no => rw [e] at z; exact z.elim
theorem mv_ix (hu : X.A.units + 180 < cLine) (ha : MV X W a f) (hb : MV X W b h) (hs : PlainIx b := by exact fun _ _ => rfl) : MV X W (.Subscript a b pos) (op2 ixD f h) := by
  refine pe_imp (me_ix hu ha hb hs) fun σ H Q ⟨F, ρ, gd, q⟩ => ⟨F, ρ, gd, ?_⟩
  unfold ixF
  unfold op2 at q
  cases e1 : f ρ with
  | ok d1 =>
    rw [e1] at q
    cases e2 : h ρ with
    | ok d2 =>
      rw [e2] at q
      rw [R.bind_ok, R.bind_ok] at q ⊢
      cases e3 : ixD d1 d2 with
      | ok d => rw [e3] at q; exact fun v F' H' x r => q v F' H' x (.inl r)
      | ex c ns ds => rw [e3] at q; exact q
      | no => rw [e3] at q; exact q
    | ex c ns ds => rw [e2] at q; exact q
    | no => rw [e2] at q; exact q
  | ex c ns ds => rw [e1] at q; exact q
  | no => rw [e1] at q; exact q

/-! ### slices -/
def cutG {α : Type} (xs : List α) (lo hi : Option Int) : List α := (xs.drop (HT.sIx xs.length 0 lo)).take (HT.sIx xs.length xs.length hi - HT.sIx xs.length 0 lo)
@[simp] def cutD (d : D) (lo hi : Option Int) : R Sl := match d with
  | .lst ds => .ok (.ow (.lst (cutG ds lo hi)))
  | .tup ds => .ok (.fz (.tup (cutG ds lo hi)))
  | .str z => if z.length ≤ sizeLine then .ok (.fz (.str (cutS z lo hi))) else .no
  | .sq is => .ok (.ow (.lst ((cutG is lo hi).map .int)))
  | _ => .no
theorem cutD_nx (d lo hi) : NoEx (cutD d lo hi) := fun c ns ds h => by
  unfold cutD at h
  split at h
  · cases h
  · cases h
  · split at h <;> cases h
  · cases h
  · cases h
theorem reps_cut {K : PySem.W.Frag} {mg : Str → Option Value} {F : Hp} {ds : List D} {vs : List V} {lo hi : Option Int} (r : Reps K mg F ds vs) : Reps K mg F (cutG ds lo hi) (cutV vs lo hi) := by
  unfold cutG cutV
  rw [r.length]
  exact (r.drop _).take _
def tOo (K : PySem.W.Frag) (mg : Str → Option Value) (W : WX) (o : Rho → R (Option Int)) : TO := fun σ H Q => ∃ F ρ, GoodM K mg F H ρ σ ∧ match o ρ with
  | .ok i => ∀ F' H', Ext F H F' H' → Q i H'
  | .ex c ns ds => XPost K mg W F H σ c ns ds
  | .no => False
abbrev MO (X : Cx) (W : WX) (e : Option Expr) (o : Rho → R (Option Int)) : Prop := PO X e (tOo X.K X.mg W o)
@[simp] def oNo : Rho → R (Option Int) := fun _ => .ok none
@[simp] def asI : D → R (Option Int)
  | .int i => .ok (some i)
  | _ => .no
@[simp] def oSo (f : Rho → R D) : Rho → R (Option Int) := fun ρ => (f ρ).bind asI
theorem po_imp {e : Option Expr} {t t' : TO} (h : PO X e t) (i : ∀ σ H Q, t' σ H Q → t σ H Q) : PO X e t' := ⟨fun pins s σ H Q I q => h.run pins s σ H Q I (i σ H Q q)⟩
theorem mo_none : MO X W none oNo := po_imp po_none fun σ H Q ⟨F, ρ, g, q⟩ => q F H (.refl g.sub)
theorem mo_some (he : MV X W e f) : MO X W (some e) (oSo f) := po_imp (po_some he) fun σ H Q ⟨F, ρ, g, q⟩ => by
  refine ⟨F, ρ, g, ?_⟩
  unfold oSo at q
  cases e1 : f ρ with
  | ok d =>
    rw [e1] at q
    cases d with
    | int i => exact fun v F' H' x r => ⟨i, held_int.mp r, q F' H' x⟩
    | _ => exact q.elim
  | ex c ns ds => rw [e1] at q; exact q
  | no => rw [e1] at q; exact q
@[simp] def cutF (f : Rho → R D) (o u : Rho → R (Option Int)) : Rho → R Sl := fun ρ => (f ρ).bind fun d => (o ρ).bind fun lo => (u ρ).bind fun hi => cutD d lo hi
theorem me_slice {lo hi : Option Expr} {o u : Rho → R (Option Int)} {p2 : Pos} (he : MV X W e f) (hl : MO X W lo o) (hu : MO X W hi u) : ME X W (.Subscript e (.Slice lo hi none p2) pos) (cutF f o u) := by
  refine pe_imp (pe_slice (sl_list.or (sl_tupA.or sl_str)) he hl hu) fun σ H Q ⟨F, ρ, gd, q⟩ => ?_
  refine tV_then (P := fun F H => EPost X.K X.mg W F H σ Q) gd q (fun _ _ _ z => z) (fun z => z) (fun F' H' r x z => z.ext x) fun d v F1 H1 _ x1 g1 r1 z1 => ?_
  refine ⟨F1, ρ, g1, ?_⟩
  cases e1 : o ρ with
  | ex c ns ds => rw [e1] at z1; exact z1
  | no => rw [e1] at z1; exact z1
  | ok lo =>
    rw [e1] at z1
    intro F2 H2 x2
    refine ⟨F2, ρ, g1.ext x2, ?_⟩
    have z2 : EPost X.K X.mg W F2 H2 σ Q ((u ρ).bind fun hi => cutD d lo hi) := EPost.ext x2 z1
    cases e2 : u ρ with
    | ex c ns ds => rw [e2] at z2; exact z2
    | no => rw [e2] at z2; exact z2
    | ok hi =>
      rw [e2] at z2
      intro F3 H3 x3
      have z3 : EPost X.K X.mg W F3 H3 σ Q (cutD d lo hi) := EPost.ext x3 z2
      have r3 := (r1.ext x2).ext x3
      have sb := x3.sub
      unfold cutD at z3
      cases d with
      | lst ds =>
        obtain ⟨a, vs, rfl, hq, r⟩ := r3.lst sb
        exact .inl ⟨a, vs, rfl, hq, fun p n => z3 _ F3 _ (ext_new sb n fun _ q => nomatch q) ⟨p, rfl, n, sb.none n, _, upd_same, reps_cut r⟩⟩
      | tup ds =>
        obtain ⟨a, vs, rfl, hq, r⟩ := r3.tup sb
        refine .inr (.inl ⟨a, vs, rfl, hq, fun ⟨h1, h2⟩ => ?_, fun _ p n => z3 _ _ _ (ext_tup sb n) (tup_rep sb n (reps_cut r))⟩)
        have ec : cutG ds lo hi = ds := by
          have hlen := r.length
          rw [hlen] at h1 h2
          unfold cutG
          rw [h1, h2, Nat.sub_zero, List.drop_zero, List.take_length]
        have z3 : EPost X.K X.mg W F3 H3 σ Q (.ok (.fz (.tup (cutG ds lo hi)))) := z3
        rw [ec] at z3
        rcases r3 with rr | ⟨pp, _, oo⟩
        · exact z3 _ F3 H3 (.refl sb) rr
        · exact oo.elim
      | sq is =>
        obtain ⟨a, rfl, hq⟩ := r3.sq sb
        have ec : cutV (is.map V.int) lo hi = (cutG is lo hi).map V.int := by
          unfold cutV cutG
          rw [List.length_map, List.map_take, List.map_drop]
        refine .inl ⟨a, _, rfl, hq.sq sb, fun p n => z3 _ F3 _ (ext_new sb n fun _ q => nomatch q) ⟨p, rfl, n, sb.none n, _, upd_same, ?_⟩⟩
        rw [ec]
        exact reps_ints _
      | str z =>
        have ez := held_str.mp r3
        subst ez
        by_cases hz : z.length ≤ sizeLine
        · have z3 : EPost X.K X.mg W F3 H3 σ Q (if z.length ≤ sizeLine then .ok (.fz (.str (cutS z lo hi))) else .no) := z3
          rw [if_pos hz] at z3
          exact .inr (.inr ⟨z, rfl, hz, z3 _ F3 H3 (.refl sb) (show Rep X.K X.mg F3 (.str _) _ from rep_str.mpr rfl)⟩)
        · have z3 : EPost X.K X.mg W F3 H3 σ Q (if z.length ≤ sizeLine then .ok (.fz (.str (cutS z lo hi))) else .no) := z3
          rw [if_neg hz] at z3; exact z3.elim
      | _ => exact z3.elim

/-! ### lists and tuples joined, repeated -/
@[simp] def catD : D → D → R Sl
  | .lst a, .lst b => if a.length + b.length ≤ sizeLine then .ok (.ow (.lst (a ++ b))) else .no
  | .tup a, .tup b => if a.length + b.length ≤ sizeLine then .ok (.fz (.tup (a ++ b))) else .no
  | _, _ => .no
theorem catD_nx (a b : D) : NoEx (catD a b) := fun c ns ds h => by
  unfold catD at h
  split at h
  · split at h <;> cases h
  · split at h <;> cases h
  · cases h
/-- list + list, whatever may be read -/
theorem Inv.lstR {X : Cx} {pins : List (Addr × Obj)} {σ : SS} {H : Hp} {s : Shared} {l : Addr} {xs : List V} (I : L2.Inv X pins σ H s) (hH : Rd H l (.lst xs)) : xs.length ≤ sizeLine ∧ ∃ (its : List Value) (n : Nat), Vals xs its ∧ xs.length = its.length ∧ s.heap.get? l = some { cls := .type "list", data := .seq its.toArray n } := by
  obtain ⟨z, its, n, r, e⟩ := hH.ok I.hok
  exact ⟨z, its, n, r, r.length, e⟩
def rCatM : R2 := fun x y H Q => ∃ l b xs zs, x = .ref l ∧ y = .ref b ∧ Rd H l (.lst xs) ∧ Rd H b (.lst zs) ∧ xs.length + zs.length ≤ sizeLine ∧ ∀ p, H p = none → Q (.ref p) (upd H p (.lst (xs ++ zs)))
theorem op_catM : OpR X (binaryOp .Add) rCatM := by
  intro pins s σ H x y v u Q I rx ry h
  obtain ⟨l, b, xs, zs, rfl, rfl, hH, hB, hz, q⟩ := h
  cases rx
  cases ry
  obtain ⟨z, its, n, r, hl, e⟩ := Inv.lstR I hH
  obtain ⟨z2, its2, n2, r2, hl2, e2⟩ := Inv.lstR I hB
  refine PySem.P.add_list e e2 ?_ (by rw [List.size_toArray, List.size_toArray]; omega)
  have ea : its.toArray ++ its2.toArray = (its ++ its2).toArray := by simp
  rw [ea]
  exact ⟨.ref _, _, I.lnew (t' := s.toks) (r.append r2) (by rw [List.length_append]; omega), rfl, q _ I.fresh⟩
theorem sim_cat : Sim2S X (fun x y H Q => rCatM x y H Q ∨ rCatA X.K x y H Q) catD := fun F H d1 d2 v1 v2 s Q sb h1 h2 e q => by
  unfold catD at e
  split at e
  · next a b =>
    split at e
    · next hl =>
      cases e
      obtain ⟨p1, vs, rfl, hq, r⟩ := h1.lstR sb
      obtain ⟨p2, ws, rfl, hq2, r2⟩ := h2.lstR sb
      exact .inl ⟨p1, p2, vs, ws, rfl, rfl, hq, hq2, by rw [r.length, r2.length]; exact hl, fun p n => q _ F _ (ext_new sb n fun _ q => nomatch q) ⟨p, rfl, n, sb.none n, _, upd_same, r.append r2⟩⟩
    · cases e
  · next a b =>
    split at e
    · next hl =>
      cases e
      obtain ⟨p1, vs, rfl, hq, r⟩ := h1.tup sb
      obtain ⟨p2, ws, rfl, hq2, r2⟩ := h2.tup sb
      have l1 := r.length
      have l2 := r2.length
      refine .inr ⟨p1, p2, vs, ws, rfl, rfl, hq, hq2, by rw [l1, l2]; exact hl, fun z => ?_, fun _ z => ?_, fun _ _ p n => q _ _ _ (ext_tup sb n) (tup_rep sb n (r.append r2))⟩
      · have ea : a = [] := by
          rw [z] at l1
          exact List.eq_nil_of_length_eq_zero l1.symm
        subst ea
        rcases h2 with rr | ⟨_, _, oo⟩
        · exact q _ F H (.refl sb) rr
        · exact oo.elim
      · have eb : b = [] := by
          rw [z] at l2
          exact List.eq_nil_of_length_eq_zero l2.symm
        subst eb
        rw [List.append_nil] at q
        rcases h1 with rr | ⟨_, _, oo⟩
        · exact q _ F H (.refl sb) rr
        · exact oo.elim
    · cases e
  · cases e
theorem me_cat (ha : MV X W a f) (hb : MV X W b h) : ME X W (.BinOp a .Add b pos) (op2S catD f h) := me_op (op_catM.or op_catA) sim_cat catD_nx ha hb
/-- a new list times an int -/
@[simp] def repF (m : Rho → R Sl) (h : Rho → R D) : Rho → R Sl := fun ρ => (m ρ).bind fun s => (h ρ).bind fun b => match s, b with
  | .ow (.lst a), .int k => if -(2 ^ 63) ≤ k ∧ k < 2 ^ 63 ∧ a.length * k.toNat ≤ sizeLine then .ok (.ow (.lst (List.replicate k.toNat a).flatten)) else .no
  | _, _ => .no
theorem reps_flat {K : PySem.W.Frag} {mg : Str → Option Value} {F : Hp} {ds : List D} {vs : List V} (r : Reps K mg F ds vs) : ∀ n : Nat, Reps K mg F (List.replicate n ds).flatten (List.replicate n vs).flatten
  | 0 => reps_nil.mpr rfl
  | n + 1 => by
    rw [List.replicate_succ, List.replicate_succ, List.flatten_cons, List.flatten_cons]
    exact r.append (reps_flat r n)
theorem me_rep (ha : ME X W a m) (hb : MV X W b h) : ME X W (.BinOp a .Mult b pos) (repF m h) := by
  refine pe_imp (pe_op op_rep ha hb) fun σ H Q ⟨F, ρ, gd, q⟩ => ?_
  refine tM_then (P := fun F H => EPost X.K X.mg W F H σ Q) gd q (fun _ _ _ z => z) (fun z => z) (fun F' H' r x z => z.ext x) fun s v F1 H1 _ x1 g1 r1 z1 => ?_
  refine tV_then (P := fun F H => EPost X.K X.mg W F H σ Q) g1 z1 (fun _ _ _ z => z) (fun z => z) (fun F' H' r x z => z.ext x) fun d w F2 H2 _ x2 g2 r2 z2 => ?_
  cases s with
  | un => exact r1.elim
  | io _ _ _ => exact r1.elim
  | fz _ => exact z2.elim
  | ow sd =>
    obtain ⟨p, rfl, n, np, o⟩ := r1
    cases sd with
    | lst ds =>
      cases d with
      | int k =>
        have z2 : EPost X.K X.mg W F2 H2 σ Q (if -(2 ^ 63) ≤ k ∧ k < 2 ^ 63 ∧ ds.length * k.toNat ≤ sizeLine then .ok (.ow (.lst (List.replicate k.toNat ds).flatten)) else .no) := z2
        by_cases hc : -(2 ^ 63) ≤ k ∧ k < 2 ^ 63 ∧ ds.length * k.toNat ≤ sizeLine
        · rw [if_pos hc] at z2
          obtain ⟨vs, e, r⟩ := o.ext x2
          refine ⟨p, k, vs, rfl, held_int.mp r2, e, hc.1, hc.2.1, by rw [r.length]; exact hc.2.2, fun p' n' => z2 _ F2 _ (ext_new x2.sub n' fun _ q => nomatch q) ⟨p', rfl, n', x2.sub.none n', _, upd_same, reps_flat r _⟩⟩
        · rw [if_neg hc] at z2; exact z2.elim
      | _ => exact z2.elim
    | _ => exact z2.elim

/-! ### isinstance of a built-in type -/
@[simp] def tyN : D → Option String
  | .non => some "NoneType" | .bl _ => some "bool" | .int _ => some "int" | .str _ => some "str" | .tup _ => some "tuple" | .lst _ => some "list" | .dk _ _ => some "dict" | .dt _ _ => some "dict" | .obj _ _ _ => none | .sq _ => some "list" | .wt _ => some "tuple" | .exc _ => none | .cel _ _ => none
@[simp] def isT (T : String) (d : D) : R D := match tyN d with
  | some a => if T = "int" then .ok (.bl (decide (a = "int" ∨ a = "bool"))) else if T = "bool" ∨ T = "str" ∨ T = "tuple" ∨ T = "list" ∨ T = "dict" then .ok (.bl (decide (a = T))) else .no
  | none => .no
theorem isT_kit {T a : String} {d : D} {r : D} (ha : tyN d = some a) (h : isT T d = .ok r) : ∃ b, r = .bl b ∧ PySem.W.kitOne X.K (.type a) (.type T) = some b := by
  have aa : a ∈ ["NoneType", "bool", "int", "str", "tuple", "list", "dict"] := by
    cases d <;> (unfold tyN at ha; first | (cases ha; simp) | cases ha)
  unfold isT at h
  rw [ha] at h
  have h : (if T = "int" then R.ok (.bl (decide (a = "int" ∨ a = "bool"))) else if T = "bool" ∨ T = "str" ∨ T = "tuple" ∨ T = "list" ∨ T = "dict" then R.ok (.bl (decide (a = T))) else R.no) = R.ok r := h
  have key : ∀ a ∈ ["NoneType", "bool", "int", "str", "tuple", "list", "dict"], (kitB a "int" = some (decide (a = "int" ∨ a = "bool"))) ∧ ∀ T ∈ ["bool", "str", "tuple", "list", "dict"], kitB a T = some (decide (a = T)) := by decide +kernel
  by_cases h1 : T = "int"
  · rw [if_pos h1] at h; cases h
    subst h1
    exact ⟨_, rfl, kit_ty (key a aa).1⟩
  · rw [if_neg h1] at h
    by_cases h2 : T = "bool" ∨ T = "str" ∨ T = "tuple" ∨ T = "list" ∨ T = "dict"
    · rw [if_pos h2] at h; cases h
      exact ⟨_, rfl, kit_ty ((key a aa).2 T (by simpa using h2))⟩
    · rw [if_neg h2] at h; cases h
def rIsM (X : Cx) (T : String) : List V → Hp → VK → Prop := fun xs H Q => ∃ F d x r, xs = [x, .ty T] ∧ Sub F H ∧ Held X.K X.mg F H d x ∧ isT T d = .ok r ∧ ∀ y, Held X.K X.mg F H r y → Q y H
theorem call_isM {T : String} : CallR X (.builtin "isinstance") (rIsM X T) := by
  intro pins s σ H xs us Q I r hh
  obtain ⟨F, d, x, rd, rfl, sb, hd, e, q⟩ := hh
  obtain ⟨u, w', rfl, rx, ry⟩ := vals2 r
  have ry : w' = Value.type T := ry
  subst ry
  cases ea : tyN d with
  | none => unfold isT at e; rw [ea] at e; cases e
  | some a =>
    obtain ⟨b, rfl, hk⟩ := isT_kit (X := X) ea e
    have fin : ∀ tk, EP X pins σ Q (.bool b) { s with toks := tk } := fun tk => ⟨.bl b, H, I.tok tk, rfl, q _ (held_bl.mpr rfl)⟩
    cases d with
    | non => cases ea; rw [held_non.mp hd] at rx; cases rx; exact PySem.W.kia_one PySem.W.kitx_none I.kIn True.intro hk (fun z => nomatch z) fin
    | bl k => cases ea; rw [held_bl.mp hd] at rx; cases rx; exact PySem.W.kia_one PySem.W.kitx_bool I.kIn True.intro hk (fun z => nomatch z) fin
    | int k => cases ea; rw [held_int.mp hd] at rx; obtain ⟨t, rfl⟩ := rx; exact PySem.W.kia_one PySem.W.kitx_int I.kIn True.intro hk (fun z => nomatch z) fin
    | str k => cases ea; rw [held_str.mp hd] at rx; obtain ⟨t, rfl⟩ := rx; exact PySem.W.kia_one PySem.W.kitx_str I.kIn True.intro hk (fun z => nomatch z) fin
    | tup ds =>
      cases ea
      obtain ⟨p, vs, rfl, hq, _⟩ := hd.tup sb
      cases rx
      obtain ⟨its, _, ⟨o, h1, h2, _⟩, _⟩ := I.tuple hq
      exact PySem.W.kia_one PySem.W.kitx_tuple I.kIn ⟨o, h1, h2⟩ hk (fun z => nomatch z) fin
    | lst ds =>
      cases ea
      obtain ⟨p, vs, rfl, hq, _⟩ := hd.lst sb
      cases rx
      obtain ⟨its, _, ⟨o, n, h1, h2, _⟩, _⟩ := I.list hq
      exact PySem.W.kia_one PySem.W.kitx_list I.kIn ⟨o, h1, h2⟩ hk (fun z => nomatch z) fin
    | dk ks ds =>
      cases ea
      obtain ⟨p, ws, rfl, hq, _⟩ := hd.dk sb
      cases rx
      obtain ⟨_, _, _, _, o, _, _, h1, h2, _⟩ := hq.ok I.hok
      exact PySem.W.kia_one PySem.W.kitx_dict I.kIn ⟨o, h1, h2.1⟩ hk (fun z => nomatch z) fin
    | dt ks ds =>
      cases ea
      obtain ⟨p, ws, rfl, hq, _⟩ := hd.dt sb
      cases rx
      obtain ⟨_, _, _, _, o, _, _, h1, h2, _⟩ := hq.ok I.hok
      exact PySem.W.kia_one PySem.W.kitx_dict I.kIn ⟨o, h1, h2.1⟩ hk (fun z => nomatch z) fin
    | sq is =>
      cases ea
      obtain ⟨p, rfl, hq⟩ := hd.sq sb
      cases rx
      obtain ⟨its, _, ⟨o, n, h1, h2, _⟩, _⟩ := I.list (hq.sq sb)
      exact PySem.W.kia_one PySem.W.kitx_list I.kIn ⟨o, h1, h2⟩ hk (fun z => nomatch z) fin
    | wt ds =>
      cases ea
      obtain ⟨p, vs, rfl, hq, _⟩ := hd.wt
      cases rx
      obtain ⟨its, _, ⟨o, h1, h2, _⟩, _⟩ := I.tuple hq.sq
      exact PySem.W.kia_one PySem.W.kitx_tuple I.kIn ⟨o, h1, h2⟩ hk (fun z => nomatch z) fin
    | exc a => cases ea
    | cel _ _ => cases ea
    | obj c ns ds => cases ea
theorem mv_isi {T : String} {tn : Str} {p2 : Pos} (hm : X.mg "isinstance" = none) (hm2 : X.mg tn = none) (he : MV X W e f) (hv2 : bootBuiltins tn = some (.type T)) (hg2 : Gl X tn := by rfl) (hg : Gl X "isinstance" := by rfl) (hn2 : tn ≠ "__name__" := by decide) (hd2 : (tn == ("__debug__" : Str)) = false := by decide)
    (hs1 : starEach [e, .Name tn p2] X.env = (false, eval e X.env) :: starEach [.Name tn p2] X.env := by rfl) (hs2 : starEach [.Name tn p2] X.env = (false, eval (.Name tn p2) X.env) :: starEach [] X.env := by rfl) (hpl : (backTo pos (starEach [.Name tn p2] X.env)).any (·.1) = false := by rfl) :
    MV X W (.Call (.Name "isinstance" p) [e, .Name tn p2] [] pos) (op1 (isT T) f) := by
  refine pe_imp (pe_callB (call_isM (T := T)) hg hm PyProof.Rows.boot_isinstance (pa_cons he (pa_cons (pe_bltn hg2 hm2 hv2 (v := .ty T) rfl hn2 hd2) pa_nil hs2) hs1) (by decide) (by decide) hs1 hpl) fun σ H Q ⟨F, ρ, gd, q⟩ => ?_
  show tV X.K X.mg W f σ H fun x H1 => rIsM X T [x, .ty T] H1 Q
  refine tV_then (P := fun F H => BPost X.K X.mg W F H σ Q) gd q (fun _ _ _ z => z) (fun z => z) (fun F' H' r x z => z.ext x) fun d v F' H' _ x g' r z => ?_
  cases e1 : isT T d with
  | ok d' => rw [e1] at z; exact ⟨F', d, v, d', rfl, g'.sub, r, e1, fun y hy => z y F' H' (.refl g'.sub) hy⟩
  | ex c ns ds =>
    unfold isT at e1
    split at e1
    · split at e1
      · cases e1
      · split at e1 <;> cases e1
    · cases e1
  | no => rw [e1] at z; exact z.elim
end
end Mp

namespace Mp
open PySem PySem.Spec PyProof.Rows L2

/-! ### targets that are tuples -/
def tGs (K : PySem.W.Frag) (mg : Str → Option Value) (ws : List Nat) (g : List D → Rho → R Rho) : TGs := fun vs σ H Q => ∃ F ρ ds F0 H0, Stt K mg F0 H0 F H ρ σ ∧ Reps K mg F ds vs ∧ match g ds ρ with
  | .ok ρ' => ∀ σ', Stt K mg F0 H0 F H ρ' σ' → (∀ vs : List Nat, (∀ i ∈ ws, i ∈ vs) → wipe σ' vs = wipe σ vs) → Q σ' H
  | _ => False
abbrev MGs (X : Cx) (ts : List Expr) (ws : List Nat) (g : List D → Rho → R Rho) : Prop := PGs X ts (tGs X.K X.mg ws g)
@[simp] def gNl : List D → Rho → R Rho := fun ds ρ => match ds with | [] => .ok ρ | _ => .no
@[simp] def gCn (g : D → Rho → R Rho) (gs : List D → Rho → R Rho) : List D → Rho → R Rho := fun ds ρ => match ds with | d :: ds => (g d ρ).bind (gs ds) | [] => .no
@[simp] def gTp (n : Nat) (gs : List D → Rho → R Rho) : D → Rho → R Rho := fun d ρ => match d with
  | .tup ds => if ds.length = n then gs ds ρ else .no
  | .lst ds => if ds.length = n then gs ds ρ else .no
  | _ => .no
theorem pgs_imp {X : Cx} {ts : List Expr} {t t' : TGs} (h : PGs X ts t) (i : ∀ v σ H Q, t' v σ H Q → t v σ H Q) : PGs X ts t' := ⟨fun pins s σ H v u Q I r q => h.run pins s σ H v u Q I r (i v σ H Q q)⟩
theorem pg_or {X : Cx} {e : Expr} {t u : TG} (h : PG X e t) (h' : PG X e u) : PG X e (fun v σ H Q => t v σ H Q ∨ u v σ H Q) := ⟨fun pins s σ H v w Q I r q => q.elim (h.run pins s σ H v w Q I r) (h'.run pins s σ H v w Q I r)⟩
section
variable {X : Cx} {e : Expr} {es : List Expr} {g : D → Rho → R Rho} {gs : List D → Rho → R Rho} {ws us : List Nat} {pos : Pos} {n : Nat}
theorem mgs_nil : MGs X [] [] gNl := pgs_imp pgs_nil fun vs σ H Q ⟨F, ρ, ds, F0, H0, st, r, q⟩ => by
  cases ds with
  | nil => exact ⟨reps_nil.mp r, q σ st fun _ _ => rfl⟩
  | cons d ds => exact q.elim
theorem mgs_cons (h1 : MG X e ws g) (h2 : MGs X es us gs) (hs : (assignEach (e :: es) X.env).map (·.2) = assign e X.env :: (assignEach es X.env).map (·.2) := by rfl) : MGs X (e :: es) (ws ++ us) (gCn g gs) := by
  refine pgs_imp (pgs_cons h1 h2 hs) fun vs σ H Q ⟨F, ρ, ds, F0, H0, st, r, q⟩ => ?_
  cases ds with
  | nil => exact q.elim
  | cons d ds =>
    obtain ⟨v, vr, rfl, r1, r2⟩ := reps_cons.mp r
    refine ⟨v, vr, rfl, F, ρ, d, F0, H0, st, r1, ?_⟩
    have q : (match (g d ρ).bind (gs ds) with
      | .ok ρ' => ∀ σ', Stt X.K X.mg F0 H0 F H ρ' σ' → (∀ vs : List Nat, (∀ i ∈ ws ++ us, i ∈ vs) → wipe σ' vs = wipe σ vs) → Q σ' H
      | _ => False) := q
    cases e1 : g d ρ with
    | ok ρ1 =>
      rw [e1] at q
      intro σ1 st1 w1
      refine ⟨F, ρ1, ds, F0, H0, st1, r2, ?_⟩
      have q : (match gs ds ρ1 with
        | .ok ρ' => ∀ σ', Stt X.K X.mg F0 H0 F H ρ' σ' → (∀ vs : List Nat, (∀ i ∈ ws ++ us, i ∈ vs) → wipe σ' vs = wipe σ vs) → Q σ' H
        | _ => False) := q
      cases e2 : gs ds ρ1 with
      | ok ρ2 =>
        rw [e2] at q
        exact fun σ2 st2 w2 => q σ2 st2 fun vs h => (w2 vs fun i hi => h i (List.mem_append_right _ hi)).trans (w1 vs fun i hi => h i (List.mem_append_left _ hi))
      | _ => rw [e2] at q; exact q
    | _ => rw [e1] at q; exact q
theorem mg_tup {k : Nat} (hc : X.calm = true) (h : MGs X es ws gs) (hn : (assignEach es X.env).length = n := by rfl) (hst : (assignEach es X.env).findIdx? (·.1) = none := by rfl) : MG X (.Tuple es k pos) ws (gTp n gs) := by
  refine pg_imp (pg_or (L2.pg_tup hc h hn hst) (pg_lst hc h hn hst)) fun v σ H Q ⟨F, ρ, d, F0, H0, st, r, q⟩ => ?_
  cases d with
  | tup ds =>
    have q : (match (if ds.length = n then gs ds ρ else R.no) with
      | .ok ρ' => ∀ σ', Stt X.K X.mg F0 H0 F H ρ' σ' → (∀ vs : List Nat, (∀ i ∈ ws, i ∈ vs) → wipe σ' vs = wipe σ vs) → Q σ' H
      | _ => False) := q
    by_cases hl : ds.length = n
    · rw [if_pos hl] at q
      obtain ⟨a, vs, rfl, la, rs⟩ := rep_tup.mp r
      exact .inl ⟨a, vs, rfl, la.sq st.good.sub, by rw [rs.length]; exact hl, F, ρ, ds, F0, H0, st, rs, q⟩
    · rw [if_neg hl] at q; exact q.elim
  | lst ds =>
    have q : (match (if ds.length = n then gs ds ρ else R.no) with
      | .ok ρ' => ∀ σ', Stt X.K X.mg F0 H0 F H ρ' σ' → (∀ vs : List Nat, (∀ i ∈ ws, i ∈ vs) → wipe σ' vs = wipe σ vs) → Q σ' H
      | _ => False) := q
    by_cases hl : ds.length = n
    · rw [if_pos hl] at q
      obtain ⟨a, vs, rfl, la, rs⟩ := rep_lst.mp r
      exact .inr ⟨a, vs, rfl, la.sq st.good.sub, by rw [rs.length]; exact hl, F, ρ, ds, F0, H0, st, rs, q⟩
    · rw [if_neg hl] at q; exact q.elim
  | _ => exact q.elim
end
/-- target = value -/
@[simp] def sAsg (f : Rho → R Sl) (g : D → Rho → R Rho) : Sem := fun _ ρ => rOut ρ (toV f ρ) fun d => match g d ρ with | .ok ρ' => .nx ρ' | _ => .no
section
variable {X : Cx} {W : WX} {e tg : Expr} {es : List Expr} {m : Rho → R Sl} {f h : Rho → R D} {g : D → Rho → R Rho} {ws : List Nat} {pos : Pos}
theorem ms_asg (he : ME X W e m) (hg : MG X tg ws g) (hs : swapsWithSole [tg] e pos.line X.env = pure false := by rfl) (hw : swappedStores [tg] e X.env = pure none := by rfl)
    (h1 : (assignEach [tg] X.env).map (·.2) = [assign tg X.env] := by rfl) : MS X W (.Assign [tg] e pos) (sAsg m g) := by
  refine ps_imp (ps_asg he hg hs hw h1) fun D σ H ⟨n, F, ρ, F0, H0, st, q⟩ => ?_
  have q' : SPost X.K X.mg W F0 H0 F H D (rOut ρ (m ρ) fun s => match slD s with | .ok d => (match g d ρ with | .ok ρ' => .nx ρ' | _ => .no) | _ => .no) := by
    unfold sAsg toV at q
    cases e1 : m ρ with
    | ok s => rw [e1] at q; cases s <;> exact q
    | ex c ns ds => rw [e1] at q; exact q
    | no => rw [e1] at q; exact q
  refine tM_out st q' fun s v F' H' _ x st' r z => ?_
  obtain ⟨d, F2, e2, x2, r2⟩ := freeze_res x r
  rw [e2] at z
  have st2 := st.grow x2
  refine ⟨F2, ρ, d, F0, H0, st2, r2, ?_⟩
  have z : SPost X.K X.mg W F0 H0 F' H' D (match g d ρ with | .ok ρ' => .nx ρ' | _ => .no) := z
  have sp : Step F' H' F2 H' ∨ True := .inr trivial
  -- what is wanted is wanted from the start on
  have z0 : SPost X.K X.mg W F0 H0 F H D (match g d ρ with | .ok ρ' => .nx ρ' | _ => .no) := by
    rename_i em _
    rw [em] at q'
    have q' : SPost X.K X.mg W F0 H0 F H D (match slD s with | .ok d => (match g d ρ with | .ok ρ' => .nx ρ' | _ => .no) | _ => .no) := q'
    rw [e2] at q'
    exact q'
  have z2 := z0.step (x2.step st.good.sub)
  cases e3 : g d ρ with
  | ok ρ' =>
    rw [e3] at z2
    exact fun σ' st3 _ => z2 σ' F2 H' .refl st3
  | ex c ns ds => rw [e3] at z2; exact z2
  | no => rw [e3] at z2; exact z2
end

/-! ### comprehensions -/
/-- as Gives, while all that stood stands (a comprehension's turns) -/
def GivesX (K : PySem.W.Frag) (mg : Str → Option Value) (J : It) (F H : Hp) (ds : List D) : Prop :=
  ∀ F1 H1, Ext F H F1 H1 → ∀ i, (i < ds.length → J.go i H1 ∧ ∀ x H', J.yld i H1 x H' → ∃ F' d, ds[i]? = some d ∧ Ext F1 H1 F' H' ∧ Rep K mg F' d x) ∧ (ds.length ≤ i → J.stop i H1)
theorem Gives.x {K : PySem.W.Frag} {mg : Str → Option Value} {J : It} {F H : Hp} {ds : List D} (g : Gives K mg J F H ds) (sb : Sub F H) : GivesX K mg J F H ds := fun F1 H1 x => g F1 H1 x.sub (x.step sb)
def JPost (K : PySem.W.Frag) (mg : Str → Option Value) (W : WX) (F H : Hp) (σ : SS) (Q : It → Hp → Prop) : R (List D) → Prop
  | .ok ds => ∀ J F' H', Ext F H F' H' → GivesX K mg J F' H' ds → Q J H'
  | .ex c ns ds => XPost K mg W F H σ c ns ds
  | .no => False
def tJ (K : PySem.W.Frag) (mg : Str → Option Value) (W : WX) (f : Rho → R (List D)) : TI := fun σ H Q => ∃ F ρ, GoodM K mg F H ρ σ ∧ JPost K mg W F H σ Q (f ρ)
abbrev MJ (X : Cx) (W : WX) (tg it : Expr) (f : Rho → R (List D)) : Prop := PI X tg it (tJ X.K X.mg W f)
@[simp] def seqV (f : Rho → R D) : Rho → R (List D) := fun ρ => (f ρ).bind slLst
section
variable {X : Cx} {W : WX} {e tg it : Expr} {f : Rho → R D} {fs : Rho → R (List D)}
theorem mj_of (h : MI X W tg it fs) : MJ X W tg it fs := pi_imp h fun σ H Q ⟨F, ρ, g, q⟩ => by
  refine ⟨F, ρ, g, ?_⟩
  cases e : fs ρ with
  | ok ds => rw [e] at q; exact fun J F' H' x gv => q J F' H' x (gv.x x.sub)
  | ex c ns ds => rw [e] at q; exact q
  | no => rw [e] at q; exact q
theorem givesX_list {K : PySem.W.Frag} {mg : Str → Option Value} {F H : Hp} {a : Addr} {vs : List V} {ds : List D} (h : Rd H a (.lst vs)) (r : Reps K mg F ds vs) : GivesX K mg (Itl K a) F H ds := fun F1 H1 x i => by
  have hq : SqL K H1 a vs := .inl (Rd.keep x.keep h)
  have hl := r.length
  refine ⟨fun hi => ⟨⟨vs, vs[i], hq, List.getElem?_eq_getElem (by omega)⟩, fun y H' hy => ?_⟩, fun hi => ⟨vs, hq, by omega⟩⟩
  obtain ⟨rfl, hy⟩ := hy
  obtain ⟨d, h1, h2⟩ := r.get' (hy vs hq)
  exact ⟨F1, d, h1, .refl x.sub, h2.mono x.frz⟩
/-- a list, a tuple, a text that is looked at is walked in a comprehension -/
theorem mj_seq (he : MV X W e f) : MJ X W tg e (seqV f) := by
  refine pi_imp (pi_or (pi_list he) (pi_or (pi_tup he) (pi_str he))) fun σ H Q ⟨F, ρ, g, q⟩ => ?_
  unfold seqV at q
  cases e1 : f ρ with
  | ex c ns ds => rw [e1] at q; exact .inl ⟨F, ρ, g, by rw [e1]; exact q⟩
  | no => rw [e1] at q; exact q.elim
  | ok d =>
    rw [e1, R.bind_ok] at q
    cases d with
    | lst ds =>
      refine .inl ⟨F, ρ, g, ?_⟩
      rw [e1]
      intro v F1 H1 x1 r1
      obtain ⟨a, vs, ev, la, rs⟩ := r1.lstR x1.sub
      exact ⟨a, ev, ⟨vs, .inl la⟩, q _ F1 H1 x1 (givesX_list la rs)⟩
    | sq is =>
      refine .inl ⟨F, ρ, g, ?_⟩
      rw [e1]
      intro v F1 H1 x1 r1
      obtain ⟨a, ev, la⟩ := r1.sq x1.sub
      exact ⟨a, ev, ⟨_, la.sq x1.sub⟩, q _ F1 H1 x1 ((gives_sq la).x x1.sub)⟩
    | tup ds =>
      refine .inr (.inl ⟨F, ρ, g, ?_⟩)
      rw [e1]
      intro v F1 H1 x1 r1
      rcases r1 with r1 | ⟨_, _, o⟩
      · obtain ⟨a, vs, ev, la, rs⟩ := rep_tup.mp r1
        exact ⟨a, ev, ⟨vs, la.sq x1.sub⟩, q _ F1 H1 x1 ((gives_tup la rs).x x1.sub)⟩
      · exact o.elim
    | wt ds =>
      refine .inr (.inl ⟨F, ρ, g, ?_⟩)
      rw [e1]
      intro v F1 H1 x1 r1
      obtain ⟨a, vs, ev, la, rs⟩ := r1.wt
      exact ⟨a, ev, ⟨vs, la.sq⟩, q _ F1 H1 x1 ((gives_wt la rs).x x1.sub)⟩
    | str z =>
      refine .inr (.inr ⟨F, ρ, g, ?_⟩)
      rw [e1]
      intro v F1 H1 x1 r1
      exact ⟨z, held_str.mp r1, q _ F1 H1 x1 (gives_str.x x1.sub)⟩
    | _ => exact q.elim
end
def wipeR (ρ : Rho) : List Nat → Rho
  | [] => ρ
  | v :: vs => (wipeR ρ vs).set v .un
theorem wipeR_len (ρ : Rho) : ∀ vs, (wipeR ρ vs).length = ρ.length
  | [] => rfl
  | v :: vs => by unfold wipeR; rw [List.length_set, wipeR_len ρ vs]
theorem wipeR_get {ρ : Rho} {σ : SS} (hl : ρ.length = σ.length) {i : Nat} {t : Sl} (ht : t ≠ .un) : ∀ {vs : List Nat}, (wipeR ρ vs)[i]? = some t → ρ[i]? = some t ∧ (wipe σ vs)[i]? = σ[i]?
  | [], h => ⟨h, rfl⟩
  | v :: vs, h => by
    unfold wipeR at h
    unfold wipe
    by_cases hi : v = i
    · subst hi
      by_cases hv : v < (wipeR ρ vs).length
      · rw [List.getElem?_set_self hv] at h; cases h; exact (ht rfl).elim
      · rw [List.getElem?_eq_none (by simpa using hv)] at h; cases h
    · rw [List.getElem?_set_ne hi] at h
      rw [List.getElem?_set_ne hi]
      exact wipeR_get hl ht h
theorem GoodM.wipe {K : PySem.W.Frag} {mg : Str → Option Value} {F H : Hp} {ρ : Rho} {σ : SS} (g : GoodM K mg F H ρ σ) (vs : List Nat) : GoodM K mg F H (wipeR ρ vs) (L2.wipe σ vs) where
  sub := g.sub
  len := by rw [wipeR_len, wipe_length, g.len]
  fz := fun i d e => by
    obtain ⟨h1, h2⟩ := wipeR_get (t := .fz d) g.len (fun z => nomatch z) e
    rw [h2]; exact g.fz i d h1
  ow := fun i d e => by
    obtain ⟨h1, h2⟩ := wipeR_get (t := .ow d) g.len (fun z => nomatch z) e
    rw [h2]; exact g.ow i d h1
  inj := fun i j d e p a b c1 c2 => by
    obtain ⟨a1, a2⟩ := wipeR_get (t := .ow d) g.len (fun z => nomatch z) a
    obtain ⟨b1, b2⟩ := wipeR_get (t := .ow e) g.len (fun z => nomatch z) b
    rw [a2] at c1; rw [b2] at c2
    exact g.inj i j d e p a1 b1 c1 c2
theorem GoodM.stt {K : PySem.W.Frag} {mg : Str → Option Value} {F H : Hp} {ρ : Rho} {σ : SS} (g : GoodM K mg F H ρ σ) : Stt K mg (fun _ => none) (fun _ => none) F H ρ σ :=
  ⟨g, ⟨g.sub, fun _ _ e => (nomatch e), fun _ _ e => (nomatch e), fun _ _ _ => .inr rfl⟩, fun _ _ _ _ _ => rfl⟩
theorem wipe_at {u : Nat} : ∀ (vs : List Nat), u ∈ vs → ∀ σ : SS, u < σ.length → (L2.wipe σ vs)[u]? = some none
  | w :: ws, h, σ, hs => by
    unfold L2.wipe
    by_cases e : w = u
    · subst e; exact List.getElem?_set_self (by rw [wipe_length]; exact hs)
    · rw [List.getElem?_set_ne e]; exact wipe_at ws ((List.mem_cons.mp h).resolve_left (fun z => e z.symm)) σ hs
theorem wipe_wipe (σ : SS) (vs : List Nat) : ∀ us : List Nat, (∀ i ∈ us, i ∈ vs) → L2.wipe (L2.wipe σ vs) us = L2.wipe σ vs
  | [], _ => rfl
  | u :: us, hu => by
    have ih := wipe_wipe σ vs us fun i hi => hu i (List.mem_cons_of_mem _ hi)
    have e : L2.wipe (L2.wipe σ vs) (u :: us) = (L2.wipe (L2.wipe σ vs) us).set u none := rfl
    rw [e, ih]
    apply List.ext_getElem?
    intro j
    by_cases hj : u = j
    · subst hj
      by_cases hs : u < σ.length
      · rw [List.getElem?_set_self (by rw [wipe_length]; exact hs), wipe_at vs (hu u List.mem_cons_self) σ hs]
      · rw [List.getElem?_eq_none (by rw [List.length_set, wipe_length]; omega), List.getElem?_eq_none (by rw [wipe_length]; omega)]
    · rw [List.getElem?_set_ne hj]
/-- nothing is raised within -/
def nox {α : Type} : R α → R α
  | .ok a => .ok a
  | _ => .no
@[simp] theorem nox_ok {α : Type} {a : α} : nox (.ok a) = .ok a := rfl
abbrev W0 : WX := fun _ _ _ _ => False
/-- the items of a comprehension -/
def lcL (g : D → Rho → R Rho) (c : Rho → R Bool) (f : Rho → R Sl) (ρ : Rho) : List D → R (List D)
  | [] => .ok []
  | d :: ds => (nox (g d ρ)).bind fun ρ1 => (nox (c ρ1)).bind fun b => if b then (nox (toV f ρ1)).bind fun x => (lcL g c f ρ ds).bind fun xs => .ok (x :: xs) else lcL g c f ρ ds
@[simp] def lcF (it : Rho → R (List D)) (g : D → Rho → R Rho) (c : Rho → R Bool) (f : Rho → R Sl) (vs : List Nat) : Rho → R Sl := fun ρ => (it ρ).bind fun ds => if ds.length ≤ sizeLine then (lcL g c f (wipeR ρ vs) ds).bind fun xs => .ok (.ow (.lst xs)) else .no
@[simp] def yesT : Rho → R Bool := fun _ => .ok true
theorem lcL_nx {g c f ρ} : ∀ ds : List D, NoEx (lcL g c f ρ ds)
  | [] => fun _ _ _ h => nomatch h
  | d :: ds => fun cc ns es h => by
    unfold lcL at h
    cases e1 : g d ρ with
    | ok ρ1 =>
      rw [e1, nox_ok, R.bind_ok] at h
      cases e2 : c ρ1 with
      | ok b =>
        rw [e2, nox_ok, R.bind_ok] at h
        cases b with
        | true =>
          rw [if_pos rfl] at h
          cases e3 : toV f ρ1 with
          | ok x =>
            rw [e3, nox_ok, R.bind_ok] at h
            cases e4 : lcL g c f ρ ds with
            | ok xs => rw [e4] at h; cases h
            | ex c' ns' ds' => exact lcL_nx ds _ _ _ e4
            | no => rw [e4] at h; cases h
          | ex c' ns' ds' => rw [e3] at h; cases h
          | no => rw [e3] at h; cases h
        | false => rw [if_neg Bool.false_ne_true] at h; exact lcL_nx ds _ _ _ h
      | ex c' ns' ds' => rw [e2] at h; cases h
      | no => rw [e2] at h; cases h
    | ex c' ns' ds' => rw [e1] at h; cases h
    | no => rw [e1] at h; cases h
theorem lcL_cons {g c f ρ d ds xs} (h : lcL g c f ρ (d :: ds) = .ok xs) : ∃ ρ1 b, g d ρ = .ok ρ1 ∧ c ρ1 = .ok b ∧ ((b = true ∧ ∃ x ys, toV f ρ1 = .ok x ∧ lcL g c f ρ ds = .ok ys ∧ xs = x :: ys) ∨ (b = false ∧ lcL g c f ρ ds = .ok xs)) := by
  unfold lcL at h
  cases e1 : g d ρ with
  | ok ρ1 =>
    rw [e1, nox_ok, R.bind_ok] at h
    cases e2 : c ρ1 with
    | ok b =>
      rw [e2, nox_ok, R.bind_ok] at h
      refine ⟨ρ1, b, rfl, e2, ?_⟩
      cases b with
      | true =>
        rw [if_pos rfl] at h
        cases e3 : toV f ρ1 with
        | ok x =>
          rw [e3, nox_ok, R.bind_ok] at h
          cases e4 : lcL g c f ρ ds with
          | ok ys => rw [e4] at h; cases h; exact .inl ⟨rfl, x, ys, rfl, rfl, rfl⟩
          | ex c' ns' ds' => rw [e4] at h; cases h
          | no => rw [e4] at h; cases h
        | ex c' ns' ds' => rw [e3] at h; cases h
        | no => rw [e3] at h; cases h
      | false => rw [if_neg Bool.false_ne_true] at h; exact .inr ⟨rfl, h⟩
    | ex c' ns' ds' => rw [e2] at h; cases h
    | no => rw [e2] at h; cases h
  | ex c' ns' ds' => rw [e1] at h; cases h
  | no => rw [e1] at h; cases h
def tP (K : PySem.W.Frag) (mg : Str → Option Value) (W : WX) (c : Rho → R Bool) : TT := tT K mg W c
abbrev MTs (X : Cx) (ifs : List Expr) (c : Rho → R Bool) : Prop := PTs X ifs (tT X.K X.mg W0 c)
theorem mts_nil {X : Cx} : MTs X [] yesT := ⟨fun pins s σ H Q I ⟨F, ρ, g, q⟩ => pts_nil.run pins s σ H Q I (q F H (.refl g.sub))⟩
theorem mts_one {X : Cx} {e : Expr} {c : Rho → R Bool} (h : MT X W0 e c) : MTs X [e] c := pts_one h
/-- the comprehension's turns -/
theorem lc_core {K : PySem.W.Frag} {mg : Str → Option Value} {W : WX} {g : D → Rho → R Rho} {c : Rho → R Bool} {f : Rho → R Sl} {ws vs : List Nat} (hws : ∀ i ∈ ws, i ∈ vs) {σ : SS} {H F : Hp} {ρ : Rho} {Q : VK} {ds xs : List D} (gd : GoodM K mg F H ρ σ)
    (hlen : ds.length ≤ sizeLine) (e2 : lcL g c f (wipeR ρ vs) ds = .ok xs) (q : EPost K mg W F H σ Q (.ok (.ow (.lst xs)))) {J : It} {F1 H1 : Hp} (x1 : Ext F H F1 H1) (gv : GivesX K mg J F1 H1 ds) :
    tLc (fun _ _ R => R J H1) (tG K mg ws g) (tT K mg W0 c) (tM K mg W0 f) vs σ H Q := by
  intro D hD
  have sb1 := x1.sub
  have nF : F1 D = none := sb1.none hD
  refine ⟨fun i m H2 => m = ds.length - i ∧ i ≤ ds.length ∧ ∃ F2 us outs rest, Ext F1 H1 F2 H2 ∧ F2 D = none ∧ H2 D = some (.lst us) ∧ Reps K mg F2 outs us ∧ outs.length ≤ i ∧ lcL g c f (wipeR ρ vs) (ds.drop i) = .ok rest ∧ outs ++ rest = xs,
    ⟨ds.length, rfl, Nat.zero_le _, F1, [], [], xs, ext_new sb1 hD (fun _ q => nomatch q), nF, upd_same, reps_nil.mpr rfl, Nat.zero_le _, by rw [List.drop_zero]; exact e2, rfl⟩, ?_⟩
  rintro i m H2 ⟨rfl, hi, F2, us, outs, rest, x2, nD, hH2, ru, hol, hrest, hx⟩
  by_cases hlt : i < ds.length
  · right
    obtain ⟨go, yl⟩ := (gv F2 H2 x2 i).1 hlt
    refine ⟨go, fun H3 => i + 1 ≤ ds.length ∧ ∃ F3 us outs rest, Ext F1 H1 F3 H3 ∧ F3 D = none ∧ H3 D = some (.lst us) ∧ Reps K mg F3 outs us ∧ outs.length ≤ i + 1 ∧ lcL g c f (wipeR ρ vs) (ds.drop (i + 1)) = .ok rest ∧ outs ++ rest = xs, fun H3 h3 => ⟨_, by omega, rfl, h3⟩, fun xv H3 hy => ?_⟩
    obtain ⟨F3, d, hd, x3, r3⟩ := yl xv H3 hy
    have ed : ds.drop i = d :: ds.drop (i + 1) := by
      rw [List.drop_eq_getElem_cons hlt]
      have : ds[i] = d := by rw [List.getElem?_eq_getElem hlt] at hd; exact Option.some.inj hd
      rw [this]
    rw [ed] at hrest
    obtain ⟨ρ1, b, eg, ec, hcase⟩ := lcL_cons hrest
    have nH1 : ∀ {F' H'}, Ext F2 H2 F' H' → F' D = none ∧ H' D = some (.lst us) := fun {F' H'} x => by
      refine ⟨?_, x.keep _ _ hH2⟩
      cases q : F' D with
      | none => rfl
      | some u =>
        rcases x.new D u q with z | z
        · rw [nD] at z; cases z
        · rw [hH2] at z; cases z
    have good3 : GoodM K mg F3 H3 (wipeR ρ vs) (L2.wipe σ vs) := ((gd.ext x1).ext (x2.trans x3)).wipe vs
    refine ⟨F3, wipeR ρ vs, d, _, _, good3.stt, r3, ?_⟩
    rw [eg]
    intro σ4 st4 hw4
    refine ⟨?_, F3, ρ1, st4.good, ?_⟩
    · have hw := hw4 vs hws
      rw [hw, wipe_wipe σ vs vs fun _ h => h]
    · rw [ec]
      intro F5 H5 x5
      have x25 := x3.trans x5
      rcases hcase with ⟨rfl, y, ys, ey, eys, hyx⟩ | ⟨rfl, eys⟩
      · rw [if_pos rfl]
        refine ⟨F5, ρ1, st4.good.ext x5, ?_⟩
        unfold toV at ey
        cases em : f ρ1 with
        | ex c ns es => rw [em] at ey; cases ey
        | no => rw [em] at ey; cases ey
        | ok s =>
          rw [em, R.bind_ok] at ey
          intro yv F6 H6 x6 r6
          obtain ⟨d', F7, e7, x7, r7⟩ := freeze_res x6 r6
          rw [ey] at e7; cases e7
          have x27 := x25.trans x7
          obtain ⟨n7, h7⟩ := nH1 x27
          have hul : us.length < sizeLine := by rw [ru.length]; omega
          refine ⟨us, h7, hul, hlt, F7, us ++ [yv], outs ++ [y], ys, ?_, n7, upd_same, (ru.mono x27.frz).append (Reps.one r7), by rw [List.length_append, List.length_singleton]; omega, eys, by rw [List.append_assoc, List.singleton_append, ← hyx]; exact hx⟩
          have x17 := x2.trans x27
          refine ⟨⟨fun a w e => ?_, fun a ws' e => ?_, fun a ws' e => by rw [upd_ne (ne_of_none e n7)]; exact x17.sub.rdT a ws' e⟩, fun a o e => ?_, x17.frz, x17.new⟩
          · exact Rd.keep (fun b o q => q) (by
              rcases x17.sub.rd a w e with z | ⟨o, z⟩
              · exact .inl (by rw [upd_ne (ne_of_none e n7)]; exact z)
              · exact .inr ⟨o, by rw [upd_ne (ne_of_none e n7)]; exact z⟩)
          · by_cases z : a = D
            · subst z; rw [upd_same] at e; cases e
            · rw [upd_ne z] at e; exact x17.sub.tup a ws' e
          · rw [upd_ne (ne_of_none e hD)]; exact x17.keep a o e
      · rw [if_neg Bool.false_ne_true]
        obtain ⟨n5, h5⟩ := nH1 x25
        exact ⟨hlt, F5, us, outs, rest, x2.trans x25, n5, h5, ru.mono x25.frz, by omega, eys, hx⟩
  · left
    have ei : i = ds.length := by omega
    subst ei
    refine ⟨(gv F2 H2 x2 _).2 (Nat.le_refl _), ?_⟩
    rw [List.drop_length] at hrest
    cases hrest
    rw [List.append_nil] at hx
    subst hx
    exact q (.ref D) F2 H2 (x1.trans x2) ⟨D, rfl, x1.none hD, nD, us, hH2, ru⟩
/-- the comprehension's reading -/
theorem lc_read {K : PySem.W.Frag} {mg : Str → Option Value} {W : WX} {it : Rho → R (List D)} {g : D → Rho → R Rho} {c : Rho → R Bool} {f : Rho → R Sl} {ws vs : List Nat} (hws : ∀ i ∈ ws, i ∈ vs) {σ : SS} {H : Hp} {Q : VK} (h : tM K mg W (lcF it g c f vs) σ H Q) :
    tLc (tJ K mg W it) (tG K mg ws g) (tT K mg W0 c) (tM K mg W0 f) vs σ H Q := by
  obtain ⟨F, ρ, gd, q⟩ := h
  refine ⟨F, ρ, gd, ?_⟩
  unfold lcF at q
  cases e1 : it ρ with
  | ex c ns ds => rw [e1] at q; exact q
  | no => rw [e1] at q; exact q
  | ok ds =>
    rw [e1, R.bind_ok] at q
    by_cases hlen : ds.length ≤ sizeLine
    · rw [if_pos hlen] at q
      cases e2 : lcL g c f (wipeR ρ vs) ds with
      | ex c ns es => exact (lcL_nx ds _ _ _ e2).elim
      | no => rw [e2] at q; exact q.elim
      | ok xs =>
        rw [e2, R.bind_ok] at q
        exact fun J F1 H1 x1 gv => lc_core hws gd hlen e2 q x1 gv
    · rw [if_neg hlen] at q; exact q.elim
section
variable {X : Cx} {W : WX} {elt tg iter : Expr} {ifs : List Expr} {scope : Scope} {own : List (Str × Nat)} {pos : Pos} {it : Rho → R (List D)} {g : D → Rho → R Rho} {c : Rho → R Bool} {f : Rho → R Sl} {ws : List Nat}
theorem me_lc (own : List (Str × Nat)) (hc : X.calm = true) (hN : X.N.Nodup) (hi : MJ X W tg iter it) (ok : BlkOk X.N X.env.scope scope own)
    (hg : ∀ (s : Shared) (H : Hp) (C : Addr) (cl : List (Str × Addr)) (fp : List Addr), MG (X.blk s H scope (compEnvC scope cl C X.env) fp) tg ws g) (ht : ∀ (s : Shared) (H : Hp) (C : Addr) (cl : List (Str × Addr)) (fp : List Addr), MTs (X.blk s H scope (compEnvC scope cl C X.env) fp) ifs c)
    (he : ∀ (s : Shared) (H : Hp) (C : Addr) (cl : List (Str × Addr)) (fp : List Addr), ME (X.blk s H scope (compEnvC scope cl C X.env) fp) W0 elt f) (hws : ∀ i ∈ ws, i ∈ own.map (·.2) := by decide) (hs : ∀ x, foldedSetIterable iter X.env x = pure x := by intro _; rfl) :
    ME X W (.ListComp elt [⟨tg, iter, ifs, 0⟩] scope pos) (lcF it g c f (own.map (·.2))) :=
  pe_imp (pe_lc hc hN hi ok hg ht he hs) fun σ H Q h => lc_read hws h
theorem ms_setLc {i : Nat} {y : Str} {py spos : Pos} (own : List (Str × Nat)) (hc : X.calm = true) (hN : X.N.Nodup) (hi : MJ X W tg iter it) (ok : BlkOk X.N X.env.scope scope own)
    (hg : ∀ (s : Shared) (H : Hp) (C : Addr) (cl : List (Str × Addr)) (fp : List Addr), MG (X.blk s H scope (compEnvC scope cl C X.env) fp) tg ws g) (ht : ∀ (s : Shared) (H : Hp) (C : Addr) (cl : List (Str × Addr)) (fp : List Addr), MTs (X.blk s H scope (compEnvC scope cl C X.env) fp) ifs c)
    (he : ∀ (s : Shared) (H : Hp) (C : Addr) (cl : List (Str × Addr)) (fp : List Addr), ME (X.blk s H scope (compEnvC scope cl C X.env) fp) W0 elt f)
    (hsw : swapsWith (.ListComp elt [⟨tg, iter, ifs, 0⟩] scope pos) (some (.Name y py)) spos.line X.env = pure true) (hy : X.N[i]? = some y := by rfl) (hyl : X.env.scope.names.lookup y = some .local := by rfl) (hws : ∀ i ∈ ws, i ∈ own.map (·.2) := by decide) (hs : ∀ x, foldedSetIterable iter X.env x = pure x := by intro _; rfl) :
    MS X W (.Assign [.Name y py] (.ListComp elt [⟨tg, iter, ifs, 0⟩] scope pos) spos) (sOwn i (lcF it g c f (own.map (·.2)))) := by
  refine ps_imp (L2.ps_setLc (te := tM X.K X.mg W0 f) (g := tG X.K X.mg ws g) (tt := tT X.K X.mg W0 c) hc hN hy hyl hsw hi ok hg ht he hs) fun D σ H ⟨n, F, ρ, F0, H0, st, q⟩ => ?_
  refine lc_read (Q := fun x H1 => gName i x σ H1 D.nx) hws ?_
  refine tM_out st q fun s v F' H' _ xx st' r z => ?_
  exact z _ F' H' .refl (st.store xx r i)
theorem ms_setLcF {i : Nat} {y : Str} {py spos : Pos} (own : List (Str × Nat)) (hc : X.calm = true) (hN : X.N.Nodup) (hi : MJ X W tg iter it) (ok : BlkOk X.N X.env.scope scope own)
    (hg : ∀ (s : Shared) (H : Hp) (C : Addr) (cl : List (Str × Addr)) (fp : List Addr), MG (X.blk s H scope (compEnvC scope cl C X.env) fp) tg ws g) (ht : ∀ (s : Shared) (H : Hp) (C : Addr) (cl : List (Str × Addr)) (fp : List Addr), MTs (X.blk s H scope (compEnvC scope cl C X.env) fp) ifs c)
    (he : ∀ (s : Shared) (H : Hp) (C : Addr) (cl : List (Str × Addr)) (fp : List Addr), ME (X.blk s H scope (compEnvC scope cl C X.env) fp) W0 elt f)
    (hsw : swapsWith (.ListComp elt [⟨tg, iter, ifs, 0⟩] scope pos) (some (.Name y py)) spos.line X.env = pure true) (hy : X.N[i]? = some y := by rfl) (hyl : X.env.scope.names.lookup y = some .local := by rfl) (hws : ∀ i ∈ ws, i ∈ own.map (·.2) := by decide) (hs : ∀ x, foldedSetIterable iter X.env x = pure x := by intro _; rfl) :
    MS X W (.Assign [.Name y py] (.ListComp elt [⟨tg, iter, ifs, 0⟩] scope pos) spos) (sSet i (lcF it g c f (own.map (·.2)))) := by
  refine ps_imp (L2.ps_setLc (te := tM X.K X.mg W0 f) (g := tG X.K X.mg ws g) (tt := tT X.K X.mg W0 c) hc hN hy hyl hsw hi ok hg ht he hs) fun D σ H ⟨n, F, ρ, F0, H0, st, q⟩ => ?_
  refine lc_read (Q := fun x H1 => gName i x σ H1 D.nx) hws ?_
  refine tM_out st q fun s v F' H' _ xx st' r z => ?_
  obtain ⟨F2, x2, r2, sp⟩ := freeze_any xx r
  exact z _ F2 H' sp (st.store x2 r2 i)

/-! ### found.append(e) -/
theorem ms_app (i : Nat) {x : Str} {e : Expr} {m : Rho → R Sl} {p1 apos pos cpos : Pos} (he : ME X W e m) (hN : X.N[i]? = some x := by rfl) (hv : Vis X.env.scope x := by first | exact Or.inl rfl | exact Or.inr (Or.inl rfl) | exact Or.inr (Or.inr rfl)) (hd : (x == ("__debug__" : Str)) = false := by decide)
    (hcd : (x == ("__classdict__" : Str)) = false := by decide) (hst : starEach [e] X.env = (false, eval e X.env) :: starEach [] X.env := by rfl)
    (hbase : attributeBase (.Name x p1) "append" X.env (eval (.Name x p1) X.env) = eval (.Name x p1) X.env := by rfl)
    (hfew : ((backTo cpos (starEach [e] X.env)).all (fun x => !x.1) && (backToKw cpos (keywordEach [] X.env)).all (fun x => x.1.isSome)
      && decide ([e].length + ([] : List Keyword).length + (if ([] : List Keyword).isEmpty then 0 else 1) < 30)) = true := by rfl)
    (hline : (apos.endLine == cpos.line) = true := by rfl) (hplain : (backTo cpos (starEach [] X.env)).any (·.1) = false := by rfl)
    (hs : swapsWith (.Call (.Attribute (.Name x p1) "append" apos) [e] [] cpos) none pos.line X.env = pure false := by rfl) :
    MS X W (.Expr (.Call (.Attribute (.Name x p1) "append" apos) [e] [] cpos) pos) (sApp i m) := by
  refine ps_imp (ps_expr (pe_bm PySem.F.plainAttrs_list PySem.F.slot_list_append PySem.F.type_list_append mt_append (pe_var hN hv hd hcd) (pa_cons he pa_nil hst) hbase hfew hline hst hplain) hs) fun D σ H ⟨n, F, ρ, F0, H0, st, q⟩ => ?_
  unfold sApp at q
  split at q
  · next ds e1 =>
    obtain ⟨p, h1, h2, vs, h3, h4⟩ := st.good.ow i _ e1
    refine ⟨_, h1, .inl ⟨rfl, vs, .inl (.inl h3)⟩, ?_⟩
    show tM X.K X.mg W m σ H fun y H1 => rAppend (.ref p) [y] H1 fun _ H2 => D.nx σ H2
    have q' : SPost X.K X.mg W F0 H0 F H D (rOut ρ (m ρ) fun s => match slD s with | .ok d => if ds.length < sizeLine then .nx (ρ.set i (.ow (.lst (ds ++ [d])))) else .no | _ => .no) := by
      unfold toV at q
      cases em : m ρ with
      | ok s => rw [em] at q; cases s <;> exact q
      | ex c ns es => rw [em] at q; exact q
      | no => rw [em] at q; exact q
    refine ⟨F, ρ, st.good, ?_⟩
    cases em : m ρ with
    | ex c ns es => rw [em] at q'; exact fun cl dx F' H' x r => q' cl dx σ F' H' (x.step st.good.sub) (st.grow x) r
    | no => rw [em] at q'; exact q'
    | ok s =>
      rw [em] at q'
      intro y F1 H1 x1 r1
      obtain ⟨d, F2, e2, x2, r2⟩ := freeze_res x1 r1
      have q2 : SPost X.K X.mg W F0 H0 F H D (match slD s with | .ok d => if ds.length < sizeLine then .nx (ρ.set i (.ow (.lst (ds ++ [d])))) else .no | _ => .no) := q'
      rw [e2] at q2
      have q2 : SPost X.K X.mg W F0 H0 F H D (if ds.length < sizeLine then .nx (ρ.set i (.ow (.lst (ds ++ [d])))) else .no) := q2
      by_cases hl : ds.length < sizeLine
      · rw [if_pos hl] at q2
        have st2 := st.grow x2
        have h5 := x2.keep _ _ h3
        refine ⟨p, vs, y, rfl, rfl, h5, by rw [h4.length]; exact hl, ?_⟩
        obtain ⟨st3, sp3⟩ := st2.write (u := .lst (vs ++ [y])) (d' := .lst (ds ++ [d])) e1 h1 ⟨_, upd_same, (h4.mono x2.frz).append (Reps.one r2)⟩ fun _ z => nomatch z
        exact q2 σ F2 _ ((x2.step st.good.sub).trans sp3) st3
      · rw [if_neg hl] at q2; exact q2.elim
  · exact q.elim
end

/-! ### name op= value -/
@[simp] def sAug (i : Nat) (g : D → D → R D) (f : Rho → R D) : Sem := fun _ ρ => rOut ρ ((rdV i ρ).bind fun a => (f ρ).bind fun b => (g a b).bind fun d => if flatD d then .ok d else .no) fun d => .nx (ρ.set i (.fz d))
section
variable {X : Cx} {W : WX} {e : Expr} {f : Rho → R D} {g : D → D → R D} {r : R2} {op : Operator} {pos : Pos}
theorem ms_aug (i : Nat) {x : Str} {pos' : Pos} (hN : X.N.Nodup) (ho : OpR X (inplaceOp op) r) (hsim : Sim2 X r g) (hn : ∀ a b, NoEx (g a b)) (he : MV X W e f) (hi : X.N[i]? = some x := by rfl) (hx : Loc X.env.scope x := by first | exact .inl rfl | exact .inr rfl) (hf : X.fn x = true ∨ X.env.scope.names.lookup x = some .local := by first | exact .inl rfl | exact .inr rfl | assumption) :
    MS X W (.AugAssign (.Name x pos') op e pos) (sAug i g f) := by
  refine ps_imp (ps_aug hN hi hx he (show PIp X op r from ho) hf) fun D σ H ⟨n, F, ρ, F0, H0, st, q⟩ => ?_
  unfold sAug at q
  have rd : ∀ a, rdV i ρ = .ok a → ∃ v, σ[i]? = some (some v) ∧ Held X.K X.mg F H a v := fun a h => by
    unfold rdV at h
    split at h
    · next d e1 =>
      cases h
      obtain ⟨v, h1, h2⟩ := st.good.fz i _ e1
      exact ⟨v, h1, .inl h2⟩
    · next d e1 =>
      cases h
      obtain ⟨p, h1, h2, h3⟩ := st.good.ow i _ e1
      exact ⟨_, h1, .inr ⟨p, rfl, h3⟩⟩
    · cases h
  cases ea : rdV i ρ with
  | ex c ns ds => unfold rdV at ea; split at ea <;> cases ea
  | no => rw [ea] at q; exact q.elim
  | ok a =>
    rw [ea, R.bind_ok] at q
    obtain ⟨v, h1, h2⟩ := rd a ea
    refine ⟨v, h1, F, ρ, st.good, ?_⟩
    cases eb : f ρ with
    | ex c ns ds => rw [eb] at q; exact fun cl dx F' H' x r => q cl dx σ F' H' (x.step st.good.sub) (st.grow x) r
    | no => rw [eb] at q; exact q
    | ok b =>
      rw [eb, R.bind_ok] at q
      intro w F1 H1 x1 r1
      cases eg : g a b with
      | ex c ns ds => exact (hn a b _ _ _ eg).elim
      | no => rw [eg] at q; exact q.elim
      | ok d =>
        rw [eg, R.bind_ok] at q
        cases fl : flatD d with
        | false => rw [fl] at q; exact q.elim
        | true =>
          rw [fl, if_pos rfl] at q
          have q : SPost X.K X.mg W F0 H0 F H D (.nx (ρ.set i (.fz d))) := q
          refine hsim F1 H1 a b v w d _ x1.sub (h2.ext x1) r1 eg fun y hy => ?_
          exact q _ F1 H1 (x1.step st.good.sub) ((st.grow x1).setFz i (held_flat fl hy))
end

/-! ### reversed(list) -/
section
variable {X : Cx} {W : WX} {e tg : Expr} {fs : Rho → R (List D)} {p pos : Pos}
@[simp] def revL (fs : Rho → R (List D)) : Rho → R (List D) := fun ρ => (fs ρ).bind fun
  | [.lst ds] => .ok ds.reverse
  | _ => .no
theorem mi_rev (hm : X.mg "reversed" = none) (ha : MA X W [e] fs) (hg : Gl X "reversed" := by rfl) (hs : starEach [e] X.env = [(false, eval e X.env)] := by rfl) : MI X W tg (.Call (.Name "reversed" p) [e] [] pos) (revL fs) := by
  refine pi_imp (pi_reversed hg hm ha hs) fun σ H Q t => ?_
  obtain ⟨F, ρ, g, q⟩ := tI_of t
  refine tA_then (P := fun F H => IPost X.K X.mg W F H σ Q) g q (fun _ _ _ z => z) (fun z => z) (fun F' H' r x z => z.ext x) fun d v F' H' _ x g' r z => ?_
  split at z
  · rename_i ds _
    obtain ⟨v1, r1, rfl, h1, h2⟩ := reps_cons.mp r
    rw [reps_nil.mp h2]
    obtain ⟨a, vs, rfl, la, rs⟩ := rep_lst.mp h1
    have hl := rs.length
    refine ⟨a, vs, rfl, la.sq x.sub, z _ F' H' (.refl x.sub) fun F1 H1 sb st i => ?_⟩
    have kp : ∀ a u, F' a = some u → F1 a = some u := fun a u e => (st a u e).1
    have hq : SqL X.K H1 a vs := (la.mono kp).sq sb
    refine ⟨fun hi => ?_, fun hi => show vs.length ≤ i by rw [List.length_reverse] at hi; omega⟩
    rw [List.length_reverse] at hi
    refine ⟨⟨by omega, vs, vs[vs.length - 1 - i], hq, List.getElem?_eq_getElem (by omega)⟩, fun y H' hy => ?_⟩
    obtain ⟨rfl, hy⟩ := hy
    obtain ⟨d, e1, e2⟩ := rs.get' (hy vs hq)
    refine ⟨F1, d, ?_, .refl sb, e2.mono kp⟩
    rw [List.getElem?_reverse hi, ← hl]
    exact e1
  · exact z.elim
end
end Mp

namespace Mp
open PySem PySem.Spec PyProof.Rows L2

theorem lenA_nil : ∀ (ρ : Rho) (ds : List D), nilA ρ = .ok ds → ds.length = 0 := fun _ _ h => by cases h; rfl
theorem lenA_cons {f : Rho → R D} {fs : Rho → R (List D)} {n : Nat} (h : ∀ ρ ds, fs ρ = .ok ds → ds.length = n) : ∀ ρ ds, consA f fs ρ = .ok ds → ds.length = n + 1 := fun ρ ds e => by
  unfold consA at e
  cases e1 : f ρ with
  | ok d =>
    rw [e1] at e
    cases e2 : fs ρ with
    | ok es => rw [e2] at e; cases e; rw [List.length_cons, h ρ es e2]
    | ex c ns es => rw [e2] at e; cases e
    | no => rw [e2] at e; cases e
  | ex c ns es => rw [e1] at e; cases e
  | no => rw [e1] at e; cases e
theorem gN_nx {i : Nat} : ∀ d ρ, NoEx (gN i d ρ) := fun d ρ c ns ds h => nomatch h
theorem gNl_nx : ∀ ds ρ, NoEx (gNl ds ρ) := fun ds ρ c ns es h => by cases ds <;> cases h
theorem gCn_nx {g : D → Rho → R Rho} {gs : List D → Rho → R Rho} (h1 : ∀ d ρ, NoEx (g d ρ)) (h2 : ∀ ds ρ, NoEx (gs ds ρ)) : ∀ ds ρ, NoEx (gCn g gs ds ρ) := fun ds ρ c ns es h => by
  cases ds with
  | nil => cases h
  | cons d ds =>
    have h : (g d ρ).bind (gs ds) = .ex c ns es := h
    cases e1 : g d ρ with
    | ok ρ1 => rw [e1] at h; exact h2 ds ρ1 _ _ _ h
    | ex c' ns' es' => exact h1 d ρ _ _ _ e1
    | no => rw [e1] at h; cases h
theorem gTp_nx {gs : List D → Rho → R Rho} {n : Nat} (h2 : ∀ ds ρ, NoEx (gs ds ρ)) : ∀ d ρ, NoEx (gTp n gs d ρ) := fun d ρ c ns es h => by
  unfold gTp at h
  split at h
  · split at h
    · exact h2 _ _ _ _ _ h
    · cases h
  · split at h
    · exact h2 _ _ _ _ _ h
    · cases h
  · cases h

/-! ### a, b = x, y -/
@[simp] def sPar (i j : Nat) (fs : Rho → R (List D)) : Sem := fun _ ρ => rOut ρ (fs ρ) fun
  | [d, e] => .nx ((ρ.set i (.fz d)).set j (.fz e))
  | _ => .no
section
variable {X : Cx} {W : WX}
theorem ms_par {i j : Nat} {x y : Str} {a b : Expr} {fs : Rho → R (List D)} {px py pt pos : Pos} {kt k2 pt2} (hc : X.calm = true) (hN : X.N.Nodup) (ha : MA X W [a, b] fs) (hi : X.N[i]? = some x := by rfl) (hj : X.N[j]? = some y := by rfl) (hij : i ≠ j := by decide)
    (hx : X.env.scope.names.lookup x = some .local := by rfl) (hy : X.env.scope.names.lookup y = some .local := by rfl)
    (hw : swappedStores [.Tuple [.Name x px, .Name y py] kt pt] (.Tuple [a, b] k2 pt2) X.env = pure (some [x, y]) := by rfl)
    (hs : swapsWithSole [.Tuple [.Name x px, .Name y py] kt pt] (.Tuple [a, b] k2 pt2) pos.line X.env = pure false := by rfl) :
    MS X W (.Assign [.Tuple [.Name x px, .Name y py] kt pt] (.Tuple [a, b] k2 pt2) pos) (sPar i j fs) := by
  refine ps_imp (L2.ps_par hc hN hi hj hij hx hy ha hw hs) fun D σ H ⟨n, F, ρ, F0, H0, st, q⟩ => ?_
  refine ⟨F, ρ, st.good, ?_⟩
  unfold sPar at q
  cases e1 : fs ρ with
  | ex c ns ds => rw [e1] at q; exact fun cl dx F' H' x r => q cl dx σ F' H' (x.step st.good.sub) (st.grow x) r
  | no => rw [e1] at q; exact q
  | ok ds =>
    rw [e1] at q
    intro vs F1 H1 x1 r1
    match ds, r1, q with
    | [d, e], r1, q =>
      obtain ⟨v, r, rfl, h1, h2⟩ := reps_cons.mp r1
      obtain ⟨w, r', rfl, h3, h4⟩ := reps_cons.mp h2
      rw [reps_nil.mp h4]
      exact ⟨v, w, rfl, q _ F1 H1 (x1.step st.good.sub) (((st.grow x1).setFz i h1).setFz j h3)⟩
    | [], _, q => exact q.elim
    | [_], _, q => exact q.elim
    | _ :: _ :: _ :: _, _, q => exact q.elim
end
/-- .. one or both kept as owned -/
def keepS (o : Bool) (s : Sl) : Sl := if o then s else frzL s
def sPar2 (i j : Nat) (o u : Bool) (m m' : Rho → R Sl) : Sem := fun _ ρ => rOut ρ (m ρ) fun s => rOut ρ (m' ρ) fun t => .nx ((ρ.set i (keepS o s)).set j (keepS u t))
theorem keep_any {K : PySem.W.Frag} {mg : Str → Option Value} {F H F' H' : Hp} {s : Sl} {v : V} (o : Bool) (x : Ext F H F' H') (r : Res K mg H F' H' s v) : ∃ F2, Ext F H F2 H' ∧ Res K mg H F2 H' (keepS o s) v ∧ Step F' H' F2 H' := by
  cases o with
  | true => exact ⟨F', x, r, .refl⟩
  | false => exact freeze_any x r
section
variable {X : Cx} {W : WX}
theorem ms_par2 {i j : Nat} (o u : Bool) {x y : Str} {a b : Expr} {m m' : Rho → R Sl} {px py pt pos : Pos} {kt k2 pt2} (hc : X.calm = true) (hN : X.N.Nodup) (ha : ME X W a m) (hb : ME X W b m') (hi : X.N[i]? = some x := by rfl) (hj : X.N[j]? = some y := by rfl) (hij : i ≠ j := by decide)
    (hx : X.env.scope.names.lookup x = some .local := by rfl) (hy : X.env.scope.names.lookup y = some .local := by rfl)
    (hs1 : starEach [a, b] X.env = (false, eval a X.env) :: starEach [b] X.env := by rfl) (hs2 : starEach [b] X.env = (false, eval b X.env) :: starEach [] X.env := by rfl)
    (hw : swappedStores [.Tuple [.Name x px, .Name y py] kt pt] (.Tuple [a, b] k2 pt2) X.env = pure (some [x, y]) := by rfl)
    (hs : swapsWithSole [.Tuple [.Name x px, .Name y py] kt pt] (.Tuple [a, b] k2 pt2) pos.line X.env = pure false := by rfl) :
    MS X W (.Assign [.Tuple [.Name x px, .Name y py] kt pt] (.Tuple [a, b] k2 pt2) pos) (sPar2 i j o u m m') := by
  refine ps_imp (L2.ps_par hc hN hi hj hij hx hy (pa_cons ha (pa_cons hb pa_nil hs2) hs1) hw hs) fun D σ H ⟨n, F, ρ, F0, H0, st, q⟩ => ?_
  show tM X.K X.mg W m σ H fun v H1 => tM X.K X.mg W m' σ H1 fun w H2 => ∃ v' w', [v, w] = [v', w'] ∧ D.nx ((σ.set i (some v')).set j (some w')) H2
  refine ⟨F, ρ, st.good, ?_⟩
  unfold sPar2 at q
  cases e1 : m ρ with
  | ex c ns ds => rw [e1] at q; exact fun cl dx F' H' x r => q cl dx σ F' H' (x.step st.good.sub) (st.grow x) r
  | no => rw [e1] at q; exact q
  | ok s =>
    rw [e1, rOut_ok] at q
    intro v F1 H1 x1 r1
    obtain ⟨F2, x2, r2, sp2⟩ := keep_any o x1 r1
    have st2 := st.store x2 r2 i
    refine ⟨F2, ρ, st.good.ext x2, ?_⟩
    cases e2 : m' ρ with
    | ex c ns ds => rw [e2] at q; exact fun cl dx F' H' x r => q cl dx σ F' H' ((x2.trans x).step st.good.sub) (st.grow (x2.trans x)) r
    | no => rw [e2] at q; exact q
    | ok t =>
      rw [e2, rOut_ok] at q
      intro w F3 H3 x3 r3
      obtain ⟨F4, x4, r4, sp4⟩ := keep_any u x3 r3
      exact ⟨v, w, rfl, q _ F4 H3 ((x2.trans x4).step st.good.sub) (st2.store x4 r4 j)⟩
end
@[simp] def iaddD : D → D → R D := iiD fun i j => .int (i + j)
section
variable {X : Cx}
theorem iop_mulM : OpR X (inplaceOp .Mult) (rI (fun i j => mulOk i j = true) fun i j => .int (i * j)) := opI fun _ _ _ _ _ _ _ hc q => PyProof.Rows.imul_int q (guardB_iff.mp hc)
theorem sim_mulM : Sim2 X (rI (fun i j => mulOk i j = true) fun i j => .int (i * j)) mulD := sim_i (fun i j e => e) (hi _)
theorem iop_fdivM : OpR X (inplaceOp .FloorDiv) (rI (fun i j => divOk i j = true) fun i j => .int (i / j)) := opI fun i j _ _ _ _ _ hc q => by
  obtain ⟨h1, h2⟩ := guardB_iff.mp hc
  exact ifloordiv_int (by omega) (by rw [Int.fdiv_eq_ediv_of_nonneg i (by omega)]; exact q) (.inl h2)
theorem sim_divM : Sim2 X (rI (fun i j => divOk i j = true) fun i j => .int (i / j)) divD := sim_i (fun i j e => e) (hi _)
end
/-- a module's int -/
theorem mv_gi {X : Cx} {W : WX} {x : Str} {n : Int} {pos : Pos} (hm : ∃ t, X.mg x = some (.int n t)) (hg : Gl X x := by rfl) (hd : (x == ("__debug__" : Str)) = false := by decide) : MV X W (.Name x pos) (cV (.int n)) := by
  obtain ⟨t, hm⟩ := hm
  exact mv_c (pe_glob hg hm (v := .int n) ⟨t, rfl⟩ hd) fun _ _ => held_int.mpr rfl

/-! ### sum, all, any, min, max of lists; of two -/
section
variable {X : Cx} {W : WX} {e : Expr} {fs : Rho → R (List D)} {p pos : Pos}
def asBls : List D → Option (List Bool)
  | [] => some []
  | .bl b :: ds => (asBls ds).map (b :: ·)
  | _ => none
theorem asBls_eq : ∀ {ds : List D} {is : List Bool}, asBls ds = some is → ds = is.map .bl
  | [], is, h => by cases h; rfl
  | d :: ds, is, h => by
    cases d <;> try (cases h; done)
    unfold asBls at h
    cases e : asBls ds with
    | none => rw [e] at h; cases h
    | some js => rw [e] at h; cases h; rw [asBls_eq e]; rfl
theorem reps_ints_of {K : PySem.W.Frag} {mg : Str → Option Value} {F : Hp} : ∀ {is : List Int} {vs : List V}, Reps K mg F (is.map .int) vs → vs = is.map V.int
  | [], _, r => reps_nil.mp r
  | i :: is, vs, r => by
    obtain ⟨v, w, rfl, h1, h2⟩ := reps_cons.mp r
    rw [rep_int.mp h1, reps_ints_of h2]; rfl
theorem reps_bls_of {K : PySem.W.Frag} {mg : Str → Option Value} {F : Hp} : ∀ {is : List Bool} {vs : List V}, Reps K mg F (is.map .bl) vs → vs = is.map V.bl
  | [], _, r => reps_nil.mp r
  | i :: is, vs, r => by
    obtain ⟨v, w, rfl, h1, h2⟩ := reps_cons.mp r
    rw [rep_bl.mp h1, reps_bls_of h2]; rfl
@[simp] def sumD : List D → R D
  | [.lst ds] => match asInts ds with | some is => .ok (.int is.sum) | none => .no
  | _ => .no
@[simp] def allD : List D → R D
  | [.lst ds] => match asBls ds with | some is => .ok (.bl (is.all id)) | none => .no
  | _ => .no
@[simp] def anyD : List D → R D
  | [.lst ds] => match asBls ds with | some is => .ok (.bl (is.any id)) | none => .no
  | _ => .no
def lstMax : List Int → Int
  | [] => 0
  | [x] => x
  | x :: xs => if lstMax xs < x then x else lstMax xs
def lstMin : List Int → Int
  | [] => 0
  | [x] => x
  | x :: xs => if x < lstMin xs then x else lstMin xs
theorem lstMax_ok : ∀ xs : List Int, xs ≠ [] → lstMax xs ∈ xs ∧ ∀ y ∈ xs, y ≤ lstMax xs
  | [x], _ => ⟨List.mem_singleton.mpr rfl, fun y h => by rw [List.mem_singleton.mp h]; exact Int.le_refl _⟩
  | x :: y :: r, _ => by
    obtain ⟨h1, h2⟩ := lstMax_ok (y :: r) (by simp)
    show (if lstMax (y :: r) < x then x else lstMax (y :: r)) ∈ _ ∧ _
    have e : lstMax (x :: y :: r) = if lstMax (y :: r) < x then x else lstMax (y :: r) := rfl
    by_cases c : lstMax (y :: r) < x
    · rw [if_pos c]
      refine ⟨List.mem_cons_self, fun z hz => ?_⟩
      rw [e, if_pos c]
      rcases List.mem_cons.mp hz with rfl | hz
      · exact Int.le_refl _
      · have := h2 z hz; omega
    · rw [if_neg c]
      refine ⟨List.mem_cons_of_mem _ h1, fun z hz => ?_⟩
      rw [e, if_neg c]
      rcases List.mem_cons.mp hz with rfl | hz
      · omega
      · exact h2 z hz
theorem lstMin_ok : ∀ xs : List Int, xs ≠ [] → lstMin xs ∈ xs ∧ ∀ y ∈ xs, lstMin xs ≤ y
  | [x], _ => ⟨List.mem_singleton.mpr rfl, fun y h => by rw [List.mem_singleton.mp h]; exact Int.le_refl _⟩
  | x :: y :: r, _ => by
    obtain ⟨h1, h2⟩ := lstMin_ok (y :: r) (by simp)
    show (if x < lstMin (y :: r) then x else lstMin (y :: r)) ∈ _ ∧ _
    have e : lstMin (x :: y :: r) = if x < lstMin (y :: r) then x else lstMin (y :: r) := rfl
    by_cases c : x < lstMin (y :: r)
    · rw [if_pos c]
      refine ⟨List.mem_cons_self, fun z hz => ?_⟩
      rw [e, if_pos c]
      rcases List.mem_cons.mp hz with rfl | hz
      · exact Int.le_refl _
      · have := h2 z hz; omega
    · rw [if_neg c]
      refine ⟨List.mem_cons_of_mem _ h1, fun z hz => ?_⟩
      rw [e, if_neg c]
      rcases List.mem_cons.mp hz with rfl | hz
      · omega
      · exact h2 z hz
def maxD : List D → R D
  | [.lst ds] => match asInts ds with | some (i :: is) => .ok (.int (lstMax (i :: is))) | _ => .no
  | _ => .no
def minD : List D → R D
  | [.lst ds] => match asInts ds with | some (i :: is) => .ok (.int (lstMin (i :: is))) | _ => .no
  | _ => .no
theorem sumD_nx (ds : List D) : NoEx (sumD ds) := fun c ns es h => by
  unfold sumD at h
  split at h
  · split at h <;> cases h
  · cases h
theorem allD_nx (ds : List D) : NoEx (allD ds) := fun c ns es h => by
  unfold allD at h
  split at h
  · split at h <;> cases h
  · cases h
theorem anyD_nx (ds : List D) : NoEx (anyD ds) := fun c ns es h => by
  unfold anyD at h
  split at h
  · split at h <;> cases h
  · cases h
theorem maxD_nx (ds : List D) : NoEx (maxD ds) := fun c ns es h => by
  unfold maxD at h
  split at h
  · split at h <;> cases h
  · cases h
theorem minD_nx (ds : List D) : NoEx (minD ds) := fun c ns es h => by
  unfold minD at h
  split at h
  · split at h <;> cases h
  · cases h
theorem sim_sum : SimC X (rSum X.K) sumD := fun F H ds vs d Q sb hs e q => by
  unfold sumD at e
  split at e
  · split at e
    · rename_i h1
      cases e
      obtain ⟨v, rfl, h⟩ := helds_one hs
      obtain ⟨a, vs, rfl, h2, h3⟩ := h.lst sb
      rw [asInts_eq h1] at h3
      rw [reps_ints_of h3] at h2
      exact ⟨a, _, rfl, h2, q _ (held_int.mpr rfl)⟩
    · cases e
  · cases e
theorem sim_all : SimC X (rAll X.K) allD := fun F H ds vs d Q sb hs e q => by
  unfold allD at e
  split at e
  · split at e
    · rename_i h1
      cases e
      obtain ⟨v, rfl, h⟩ := helds_one hs
      obtain ⟨a, vs, rfl, h2, h3⟩ := h.lst sb
      rw [asBls_eq h1] at h3
      rw [reps_bls_of h3] at h2
      exact ⟨a, _, rfl, h2, q _ (held_bl.mpr rfl)⟩
    · cases e
  · cases e
theorem sim_any : SimC X (rAny X.K) anyD := fun F H ds vs d Q sb hs e q => by
  unfold anyD at e
  split at e
  · split at e
    · rename_i h1
      cases e
      obtain ⟨v, rfl, h⟩ := helds_one hs
      obtain ⟨a, vs, rfl, h2, h3⟩ := h.lst sb
      rw [asBls_eq h1] at h3
      rw [reps_bls_of h3] at h2
      exact ⟨a, _, rfl, h2, q _ (held_bl.mpr rfl)⟩
    · cases e
  · cases e
theorem sim_max : SimC X (rMax X.K) maxD := fun F H ds vs d Q sb hs e q => by
  unfold maxD at e
  split at e
  · split at e
    · rename_i h1
      cases e
      obtain ⟨v, rfl, h⟩ := helds_one hs
      obtain ⟨a, vs, rfl, h2, h3⟩ := h.lst sb
      rw [asInts_eq h1] at h3
      rw [reps_ints_of h3] at h2
      refine ⟨a, _, rfl, h2, by simp, fun m hm hy => q _ (held_int.mpr ?_)⟩
      obtain ⟨m1, m2⟩ := lstMax_ok _ (show _ :: _ ≠ [] by simp)
      have := m2 m hm
      have := hy _ m1
      congr 1
      omega
    · cases e
  · cases e
theorem sim_min : SimC X (rMin X.K) minD := fun F H ds vs d Q sb hs e q => by
  unfold minD at e
  split at e
  · split at e
    · rename_i h1
      cases e
      obtain ⟨v, rfl, h⟩ := helds_one hs
      obtain ⟨a, vs, rfl, h2, h3⟩ := h.lst sb
      rw [asInts_eq h1] at h3
      rw [reps_ints_of h3] at h2
      refine ⟨a, _, rfl, h2, by simp, fun m hm hy => q _ (held_int.mpr ?_)⟩
      obtain ⟨m1, m2⟩ := lstMin_ok _ (show _ :: _ ≠ [] by simp)
      have := m2 m hm
      have := hy _ m1
      congr 1
      omega
    · cases e
  · cases e
theorem mv_sum (hc : X.calm = true) (hm : X.mg "sum" = none) (ha : ML X W [e] fs) (hg : Gl X "sum" := by rfl) (he : starEach [e] X.env = (false, eval e X.env) :: starEach [] X.env := by rfl) : MV X W (.Call (.Name "sum" p) [e] [] pos) (opL sumD fs) :=
  mv_callB (cr_sum hc) sim_sum sumD_nx hm (by decide +kernel) ha hg (by decide) (by decide) he rfl
theorem mv_all (hc : X.calm = true) (hm : X.mg "all" = none) (ha : ML X W [e] fs) (hg : Gl X "all" := by rfl) (he : starEach [e] X.env = (false, eval e X.env) :: starEach [] X.env := by rfl) : MV X W (.Call (.Name "all" p) [e] [] pos) (opL allD fs) :=
  mv_callB (cr_all hc) sim_all allD_nx hm (by decide +kernel) ha hg (by decide) (by decide) he rfl
theorem mv_any (hc : X.calm = true) (hm : X.mg "any" = none) (ha : ML X W [e] fs) (hg : Gl X "any" := by rfl) (he : starEach [e] X.env = (false, eval e X.env) :: starEach [] X.env := by rfl) : MV X W (.Call (.Name "any" p) [e] [] pos) (opL anyD fs) :=
  mv_callB (cr_any hc) sim_any anyD_nx hm (by decide +kernel) ha hg (by decide) (by decide) he rfl
theorem mv_max (hc : X.calm = true) (hm : X.mg "max" = none) (ha : ML X W [e] fs) (hg : Gl X "max" := by rfl) (he : starEach [e] X.env = (false, eval e X.env) :: starEach [] X.env := by rfl) : MV X W (.Call (.Name "max" p) [e] [] pos) (opL maxD fs) :=
  mv_callB (cr_max hc) sim_max maxD_nx hm (by decide +kernel) ha hg (by decide) (by decide) he rfl
theorem mv_min (hc : X.calm = true) (hm : X.mg "min" = none) (ha : ML X W [e] fs) (hg : Gl X "min" := by rfl) (he : starEach [e] X.env = (false, eval e X.env) :: starEach [] X.env := by rfl) : MV X W (.Call (.Name "min" p) [e] [] pos) (opL minD fs) :=
  mv_callB (cr_min hc) sim_min minD_nx hm (by decide +kernel) ha hg (by decide) (by decide) he rfl
@[simp] def max2D : List D → R D
  | [.int i, .int j] => .ok (.int (if j > i then j else i))
  | _ => .no
@[simp] def min2D : List D → R D
  | [.int i, .int j] => .ok (.int (if j < i then j else i))
  | _ => .no
theorem max2D_nx (ds : List D) : NoEx (max2D ds) := fun c ns es h => by unfold max2D at h; split at h <;> cases h
theorem min2D_nx (ds : List D) : NoEx (min2D ds) := fun c ns es h => by unfold min2D at h; split at h <;> cases h
variable {e2 : Expr}
theorem mv_max2 (hc : X.calm = true) (hm : X.mg "max" = none) (ha : ML X W [e, e2] fs) (hg : Gl X "max" := by rfl) (he : starEach [e, e2] X.env = (false, eval e X.env) :: starEach [e2] X.env := by rfl) (hpl : (backTo pos (starEach [e2] X.env)).any (·.1) = false := by rfl) : MV X W (.Call (.Name "max" p) [e, e2] [] pos) (opL max2D fs) :=
  mv_callB (call_max2 hc) (fun F H ds vs d Q sb hs e q => by
    unfold max2D at e
    split at e
    · rename_i i j
      cases e
      have ev : vs = [V.int i, V.int j] := helds_ints (is := [i, j]) hs
      exact ⟨i, j, ev, q _ (held_int.mpr rfl)⟩
    · cases e) max2D_nx hm (by decide +kernel) ha hg (by decide) (by decide) he hpl
theorem mv_min2 (hc : X.calm = true) (hm : X.mg "min" = none) (ha : ML X W [e, e2] fs) (hg : Gl X "min" := by rfl) (he : starEach [e, e2] X.env = (false, eval e X.env) :: starEach [e2] X.env := by rfl) (hpl : (backTo pos (starEach [e2] X.env)).any (·.1) = false := by rfl) : MV X W (.Call (.Name "min" p) [e, e2] [] pos) (opL min2D fs) :=
  mv_callB (call_min2 hc) (fun F H ds vs d Q sb hs e q => by
    unfold min2D at e
    split at e
    · rename_i i j
      cases e
      have ev : vs = [V.int i, V.int j] := helds_ints (is := [i, j]) hs
      exact ⟨i, j, ev, q _ (held_int.mpr rfl)⟩
    · cases e) min2D_nx hm (by decide +kernel) ha hg (by decide) (by decide) he hpl
end

/-! ### the law's end -/
def spLaw (K : PySem.W.Frag) (n : Nat) : Sp := fun vs H Q _ => ∃ (a : Addr) (ns : List Int), vs = [.ref a] ∧ SqL K H a (ns.map V.int) ∧ ns.length ≤ n ∧ (∀ z ∈ ns, Builtin.Int.intBits z ≤ 1048576) ∧ Only H ∧ ∀ H', Q (.bl true) H'
theorem law_ok {P : Program} {w : World} {K : PySem.W.Frag} {mg : Str → Option Value} {base : Heap} {k n : Nat} {f : Addr} {fd : FuncData} {ps : List Str} {mir : List D → R Sl} (F : FnOk P w K mg base (L2.CX P w) k f fd ps (SpM K mg 1 mir))
    (h : ∀ ns : List Int, ns.length ≤ n → (∀ z ∈ ns, Builtin.Int.intBits z ≤ 1048576) → mir [.sq ns] = .ok (.fz (.bl true))) : FnOk P w K mg base CX0 k f fd ps (spLaw K n) := by
  have key : ∀ vs H Q E, spLaw K n vs H Q E → SpM K mg 1 mir vs H Q E0 := fun vs H Q E ⟨a, ns, e, hs, hl, hbt, ho, q⟩ => by
    subst e
    have fin : ∀ Fz : Hp, Sub Fz H → ScrAt K Fz a (ns.map V.int) → SpM K mg 1 mir [.ref a] H Q E0 := fun Fz sb sc => by
      refine ⟨Fz, [.sq ns], sb, reps_cons.mpr ⟨_, _, rfl, rep_sq.mpr ⟨a, rfl, sc⟩, reps_nil.mpr rfl⟩, rfl, ?_⟩
      rw [h ns hl hbt]
      intro v F' H' _ r
      rw [show v = .bl true from (rep_bl (K := K) (mg := mg) (F := F')).mp r]
      exact q H'
    rcases hs with hs | hs
    · refine fin (fun b => if b = a then some (.lst (ns.map V.int)) else none) ⟨fun b u z => ?_, fun b vs z => ?_, fun b vs z => ?_⟩ (.inl (if_pos rfl))
      · by_cases hb : b = a
        · subst hb
          rw [if_pos rfl] at z; cases z
          exact hs
        · rw [if_neg hb] at z; cases z
      · rcases ho b with z' | ⟨o', xs, z'⟩ <;> rw [z'] at z <;> cases z
      · by_cases hb : b = a
        · subst hb
          rw [if_pos rfl] at z; cases z
        · rw [if_neg hb] at z; cases z
    · refine fin (fun _ => none) ⟨fun b u z => (nomatch z), fun b vs z => ?_, fun b vs z => (nomatch z)⟩ (.inr (.inr hs))
      rcases ho b with z' | ⟨o', xs, z'⟩ <;> rw [z'] at z <;> cases z
  refine ⟨fun vs H Q E hs => F.len vs H Q E0 (key vs H Q E hs), fun A outer s H args us vs Q E hr e0 hb hv hs => codeAny_mono (F.run A outer s H args us vs Q E0 hr e0 hb hv (key vs H Q E hs)) fun r s' z => ?_⟩
  cases r with
  | ok fl => cases fl <;> exact z
  | error e =>
    obtain ⟨_, _, _, _, _, _, _, _, _, _, _, _, zz⟩ := z
    exact zz.elim
/-! ### `is not` of bools -/
@[simp] def isnotD : D → D → R D
  | .bl a, .bl b => .ok (.bl (!decide (a = b)))
  | _, _ => .no
theorem isnotD_nx (a b : D) : NoEx (isnotD a b) := fun c ns ds h => by unfold isnotD at h; split at h <;> cases h
theorem sim_isnot : Sim2 X rNotB isnotD := fun F H d1 d2 v1 v2 d Q sb h1 h2 e q => by
  unfold isnotD at e
  split at e
  · next x y =>
    cases e
    exact ⟨x, y, held_bl.mp h1, held_bl.mp h2, by
      refine q _ (held_bl.mpr ?_)
      first | rfl | (congr 1; cases x <;> cases y <;> rfl)⟩
  · cases e
theorem mv_isnot (ha : MV X W a f) (hb : MV X W b h) : MV X W (.Compare a [.IsNot] [b] pos) (op2 isnotD f h) := mv_cmp op_notBl sim_isnot isnotD_nx ha hb (nomark _)
theorem mt_isnot (ha : MV X W a f) (hb : MV X W b h) : MT X W (.Compare a [.IsNot] [b] pos) (toT (op2 isnotD f h)) := mt_cmp op_notBl sim_isnot isnotD_nx ha hb (nomark _)
end Mp

namespace Mp
open PySem PySem.Spec PyProof.Rows L2
variable {X : Cx} {W : WX}
/-! ### xs[::-1] -/
@[simp] def revD : D → R Sl
  | .lst ds => .ok (.ow (.lst ds.reverse))
  | .sq is => .ok (.ow (.lst (is.reverse.map D.int)))
  | _ => .no
@[simp] def revF (f : Rho → R D) : Rho → R Sl := fun ρ => (f ρ).bind revD
theorem reps_rev {K : PySem.W.Frag} {mg : Str → Option Value} {F : Hp} : ∀ {ds : List D} {vs : List V}, Reps K mg F ds vs → Reps K mg F ds.reverse vs.reverse := by
  intro ds vs r
  induction ds generalizing vs with
  | nil => rw [reps_nil.mp r]; exact reps_nil.mpr rfl
  | cons d ds ih =>
    obtain ⟨v1, r1, rfl, h1, h2⟩ := reps_cons.mp r
    rw [List.reverse_cons, List.reverse_cons]
    exact (ih h2).append (reps_cons.mpr ⟨v1, [], rfl, h1, reps_nil.mpr rfl⟩)
theorem me_rev {k : Nat} {p1 p2 p3 pos : Pos} {e : Expr} {f : Rho → R D} (he : MV X W e f) : ME X W (.Subscript e (.Slice none none (some (.UnaryOp .USub (.Constant (.int 1) k p1) p2)) p3) pos) (revF f) := by
  refine pe_imp (pe_revL he) fun σ H Q ⟨F, ρ, gd, q⟩ => ?_
  refine tV_then (P := fun F H => EPost X.K X.mg W F H σ Q) gd q (fun _ _ _ z => z) (fun z => z) (fun F' H' r x z => z.ext x) fun d v F1 H1 _ x1 g1 r1 z1 => ?_
  have sb := g1.sub
  cases d with
  | lst ds =>
    obtain ⟨a, vs, rfl, hq, r⟩ := r1.lst sb
    exact ⟨a, vs, rfl, hq, fun p n => z1 _ F1 _ (ext_new sb n fun _ q => nomatch q) ⟨p, rfl, n, sb.none n, _, upd_same, reps_rev r⟩⟩
  | sq is =>
    obtain ⟨a, rfl, hq⟩ := r1.sq sb
    refine ⟨a, _, rfl, hq.sq sb, fun p n => z1 _ F1 _ (ext_new sb n fun _ q => nomatch q) ⟨p, rfl, n, sb.none n, _, upd_same, ?_⟩⟩
    rw [← List.map_reverse]
    exact reps_ints _
  | _ => exact z1.elim
/-! ### is None -/
@[simp] def isND : D → D → R D
  | .non, .non => .ok (.bl true)
  | .bl _, .non => .ok (.bl false)
  | .int _, .non => .ok (.bl false)
  | .str _, .non => .ok (.bl false)
  | .tup _, .non => .ok (.bl false)
  | .lst _, .non => .ok (.bl false)
  | .sq _, .non => .ok (.bl false)
  | _, _ => .no
@[simp] def notND : D → D → R D
  | .non, .non => .ok (.bl false)
  | .bl _, .non => .ok (.bl true)
  | .int _, .non => .ok (.bl true)
  | .str _, .non => .ok (.bl true)
  | .tup _, .non => .ok (.bl true)
  | .lst _, .non => .ok (.bl true)
  | .sq _, .non => .ok (.bl true)
  | _, _ => .no
theorem isND_nx (a b : D) : NoEx (isND a b) := fun c ns ds h => by unfold isND at h; split at h <;> cases h
theorem notND_nx (a b : D) : NoEx (notND a b) := fun c ns ds h => by unfold notND at h; split at h <;> cases h
def rIsNo : R2 := fun x y H Q => y = .non ∧ Q (.bl (decide (x = .non))) H
def rNotNo : R2 := fun x y H Q => y = .non ∧ Q (.bl (!decide (x = .non))) H
theorem op_isNo : OpR X (compareOp .Is) rIsNo := op_isN
theorem op_notNo : OpR X (compareOp .IsNot) rNotNo := op_notN
theorem sim_isN : Sim2 X rIsNo isND := fun F H d1 d2 v1 v2 d Q sb h1 h2 e q => by
  unfold isND at e
  split at e
  · cases e; rw [held_non.mp h1, held_non.mp h2]; exact And.intro rfl (q _ (held_bl.mpr (by first | rfl | simp)))
  · cases e; rw [held_bl.mp h1, held_non.mp h2]; exact And.intro rfl (q _ (held_bl.mpr (by first | rfl | simp)))
  · cases e; rw [held_int.mp h1, held_non.mp h2]; exact And.intro rfl (q _ (held_bl.mpr (by first | rfl | simp)))
  · cases e; rw [held_str.mp h1, held_non.mp h2]; exact And.intro rfl (q _ (held_bl.mpr (by first | rfl | simp)))
  · cases e; obtain ⟨a, vs, rfl, _⟩ := h1.tup sb; rw [held_non.mp h2]; exact And.intro rfl (q _ (held_bl.mpr (by first | rfl | simp)))
  · cases e; obtain ⟨a, vs, rfl, _⟩ := h1.lst sb; rw [held_non.mp h2]; exact And.intro rfl (q _ (held_bl.mpr (by first | rfl | simp)))
  · cases e; obtain ⟨a, rfl, _⟩ := h1.sq sb; rw [held_non.mp h2]; exact And.intro rfl (q _ (held_bl.mpr (by first | rfl | simp)))
  · cases e
theorem sim_notN : Sim2 X rNotNo notND := fun F H d1 d2 v1 v2 d Q sb h1 h2 e q => by
  unfold notND at e
  split at e
  · cases e; rw [held_non.mp h1, held_non.mp h2]; exact And.intro rfl (q _ (held_bl.mpr (by first | rfl | simp)))
  · cases e; rw [held_bl.mp h1, held_non.mp h2]; exact And.intro rfl (q _ (held_bl.mpr (by first | rfl | simp)))
  · cases e; rw [held_int.mp h1, held_non.mp h2]; exact And.intro rfl (q _ (held_bl.mpr (by first | rfl | simp)))
  · cases e; rw [held_str.mp h1, held_non.mp h2]; exact And.intro rfl (q _ (held_bl.mpr (by first | rfl | simp)))
  · cases e; obtain ⟨a, vs, rfl, _⟩ := h1.tup sb; rw [held_non.mp h2]; exact And.intro rfl (q _ (held_bl.mpr (by first | rfl | simp)))
  · cases e; obtain ⟨a, vs, rfl, _⟩ := h1.lst sb; rw [held_non.mp h2]; exact And.intro rfl (q _ (held_bl.mpr (by first | rfl | simp)))
  · cases e; obtain ⟨a, rfl, _⟩ := h1.sq sb; rw [held_non.mp h2]; exact And.intro rfl (q _ (held_bl.mpr (by first | rfl | simp)))
  · cases e
theorem mv_isN (ha : MV X W a f) (hb : MV X W b h) : MV X W (.Compare a [.Is] [b] pos) (op2 isND f h) := mv_cmp op_isNo sim_isN isND_nx ha hb (nomark _)
theorem mt_isN (ha : MV X W a f) (hb : MV X W b h) : MT X W (.Compare a [.Is] [b] pos) (toT (op2 isND f h)) := mt_cmp op_isNo sim_isN isND_nx ha hb (nomark _)
theorem mv_notN (ha : MV X W a f) (hb : MV X W b h) : MV X W (.Compare a [.IsNot] [b] pos) (op2 notND f h) := mv_cmp op_notNo sim_notN notND_nx ha hb (nomark _)
theorem mt_notN (ha : MV X W a f) (hb : MV X W b h) : MT X W (.Compare a [.IsNot] [b] pos) (toT (op2 notND f h)) := mt_cmp op_notNo sim_notN notND_nx ha hb (nomark _)
end Mp

namespace Mp
open PySem PySem.Spec PyProof.Rows L2
/-! ### a, b, c = x, y, z -/
@[simp] def sPar3 (i j l : Nat) (fs : Rho → R (List D)) : Sem := fun _ ρ => rOut ρ (fs ρ) fun
  | [d, e, f] => .nx (((ρ.set i (.fz d)).set j (.fz e)).set l (.fz f))
  | _ => .no
section
variable {X : Cx} {W : WX}
theorem ms_par3 {i j l : Nat} {x y z : Str} {a b c : Expr} {fs : Rho → R (List D)} {px py pz pt pos : Pos} {kt k2 pt2} (hc : X.calm = true) (hN : X.N.Nodup) (ha : MA X W [a, b, c] fs) (hi : X.N[i]? = some x := by rfl) (hj : X.N[j]? = some y := by rfl) (hl : X.N[l]? = some z := by rfl) (hij : i ≠ j := by decide) (hil : i ≠ l := by decide) (hjl : j ≠ l := by decide)
    (hx : X.env.scope.names.lookup x = some .local := by rfl) (hy : X.env.scope.names.lookup y = some .local := by rfl) (hz : X.env.scope.names.lookup z = some .local := by rfl)
    (hw : swappedStores [.Tuple [.Name x px, .Name y py, .Name z pz] kt pt] (.Tuple [a, b, c] k2 pt2) X.env = pure (some [x, y, z]) := by rfl)
    (hs : swapsWithSole [.Tuple [.Name x px, .Name y py, .Name z pz] kt pt] (.Tuple [a, b, c] k2 pt2) pos.line X.env = pure false := by rfl) :
    MS X W (.Assign [.Tuple [.Name x px, .Name y py, .Name z pz] kt pt] (.Tuple [a, b, c] k2 pt2) pos) (sPar3 i j l fs) := by
  refine ps_imp (L2.ps_par3 hc hN hi hj hl hij hil hjl hx hy hz ha hw hs) fun D σ H ⟨n, F, ρ, F0, H0, st, q⟩ => ?_
  refine ⟨F, ρ, st.good, ?_⟩
  unfold sPar3 at q
  cases e1 : fs ρ with
  | ex c ns ds => rw [e1] at q; exact fun cl dx F' H' x r => q cl dx σ F' H' (x.step st.good.sub) (st.grow x) r
  | no => rw [e1] at q; exact q
  | ok ds =>
    rw [e1] at q
    intro vs F1 H1 x1 r1
    match ds, r1, q with
    | [d, e, f], r1, q =>
      obtain ⟨v, r, rfl, h1, h2⟩ := reps_cons.mp r1
      obtain ⟨w, r', rfl, h3, h4⟩ := reps_cons.mp h2
      obtain ⟨u, r'', rfl, h5, h6⟩ := reps_cons.mp h4
      rw [reps_nil.mp h6]
      exact ⟨v, w, u, rfl, q _ F1 H1 (x1.step st.good.sub) ((((st.grow x1).setFz i h1).setFz j h3).setFz l h5)⟩
    | [], _, q => exact q.elim
    | [_], _, q => exact q.elim
    | [_, _], _, q => exact q.elim
    | _ :: _ :: _ :: _ :: _, _, q => exact q.elim
end
theorem seq_par3 {i j l : Nat} {n : Nat} {ρ : Rho} {t : Sem} {fs : Rho → R (List D)} (d e f : D) (h : fs ρ = .ok [d, e, f]) : sSeq (sPar3 i j l fs) t n ρ = t n (((ρ.set i (.fz d)).set j (.fz e)).set l (.fz f)) := by simp [h]
/-- the slots at a def's start, n of them -/
def startN (n : Nat) (ds : List D) : Rho := ds.map .fz ++ List.replicate (n - ds.length) .un
end Mp

namespace Mp
open PySem PySem.Spec PyProof.Rows L2

theorem pe_alt {X : Cx} {e : Expr} {t u : TE} (h : PE X e t) (h' : PE X e u) : PE X e (fun σ H Q => t σ H Q ∨ u σ H Q) := ⟨fun pins s σ H Q I q => q.elim (h.run pins s σ H Q I) (h'.run pins s σ H Q I)⟩
theorem ps_alt {X : Cx} {st : Stmt} {t u : TS} (h : PS X st t) (h' : PS X st u) : PS X st (fun D σ H => t D σ H ∨ u D σ H) := ⟨fun pins s σ H D I q => q.elim (h.run pins s σ H D I) (h'.run pins s σ H D I)⟩

/-! ### a frozen thing is locked -/
section
variable {K : PySem.W.Frag} {mg : Str → Option Value} {F H F' H' F0 H0 : Hp} {d : Addr} {u : HO} {o : Obj} {ρ : Rho} {σ : SS}
theorem lock_sub (s : Sub F H) (hf : F d = some u) (nt : ∀ vs, u ≠ .tup vs) : Sub F (upd H d (.frz o u)) where
  rd := fun a w e => by
    by_cases z : a = d
    · subst z; rw [hf] at e; cases e; exact .inr ⟨o, upd_same⟩
    · rcases s.rd a w e with q | ⟨o', q⟩
      · exact .inl (by rw [upd_ne z]; exact q)
      · exact .inr ⟨o', by rw [upd_ne z]; exact q⟩
  tup := fun a vs e => by
    by_cases z : a = d
    · subst z; rw [upd_same] at e; cases e
    · rw [upd_ne z] at e; exact s.tup a vs e
  rdT := fun a vs e => by
    by_cases z : a = d
    · subst z; rw [hf] at e; cases e; exact (nt _ rfl).elim
    · rw [upd_ne z]; exact s.rdT a vs e
theorem unlock_sub (s : Sub F H) (hf : F d = some u) (nt : ∀ vs, u ≠ .tup vs) : Sub F (upd H d u) where
  rd := fun a w e => by
    by_cases z : a = d
    · subst z; rw [hf] at e; cases e; exact .inl upd_same
    · rcases s.rd a w e with q | ⟨o', q⟩
      · exact .inl (by rw [upd_ne z]; exact q)
      · exact .inr ⟨o', by rw [upd_ne z]; exact q⟩
  tup := fun a vs e => by
    by_cases z : a = d
    · subst z; rw [upd_same] at e; cases e; exact (nt _ rfl).elim
    · rw [upd_ne z] at e; exact s.tup a vs e
  rdT := fun a vs e => by
    by_cases z : a = d
    · subst z; rw [hf] at e; cases e; exact (nt _ rfl).elim
    · rw [upd_ne z]; exact s.rdT a vs e
theorem unlock_ext (x : Ext F (upd H d (.frz o u)) F' H') (hf : F d = some u) (hd : H d = some u) (nt : ∀ vs, u ≠ .tup vs) : H' d = some (.frz o u) ∧ Ext F H F' (upd H' d u) := by
  refine ⟨x.keep _ _ upd_same, unlock_sub x.sub (x.frz _ _ hf) nt, fun a w e => ?_, x.frz, fun a w e => ?_⟩
  · by_cases z : a = d
    · subst z; rw [hd] at e; cases e; exact upd_same
    · rw [upd_ne z]; exact x.keep a w (by rw [upd_ne z]; exact e)
  · rcases x.new a w e with q | q
    · exact .inl q
    · right
      by_cases z : a = d
      · subst z; rw [upd_same] at q; cases q
      · rw [upd_ne z] at q; exact q
theorem OwnAt.other {p q : Addr} (hq : q ≠ p) : ∀ {e : D}, OwnAt K mg F H q e → OwnAt K mg F (upd H p u) q e := fun {e} h => by
  cases e with
  | lst ds => obtain ⟨vs, a, b⟩ := h; exact ⟨vs, by rw [upd_ne hq]; exact a, b⟩
  | dk ks ds => obtain ⟨vs, a, b⟩ := h; exact ⟨vs, by rw [upd_ne hq]; exact a, b⟩
  | dt ks ds => obtain ⟨vs, a, b⟩ := h; exact ⟨vs, by rw [upd_ne hq]; exact a, b⟩
  | obj c ns ds => obtain ⟨C, dx, fs, g, a, b⟩ := h; exact ⟨C, dx, fs, g, by rw [upd_ne hq]; exact a, b⟩
  | cel r is => exact ⟨h.1, by rw [upd_ne hq]; exact h.2⟩
  | _ => exact h.elim
theorem GoodM.lock (g : GoodM K mg F H ρ σ) (hf : F d = some u) (nt : ∀ vs, u ≠ .tup vs) : GoodM K mg F (upd H d (.frz o u)) ρ σ where
  sub := lock_sub g.sub hf nt
  len := g.len
  fz := g.fz
  ow := fun i e h => by
    obtain ⟨p, h1, h2, h3⟩ := g.ow i e h
    exact ⟨p, h1, h2, h3.other fun z => by rw [z, hf] at h2; cases h2⟩
  inj := g.inj
theorem GoodM.unlock (g : GoodM K mg F H ρ σ) (hf : F d = some u) (nt : ∀ vs, u ≠ .tup vs) : GoodM K mg F (upd H d u) ρ σ where
  sub := unlock_sub g.sub hf nt
  len := g.len
  fz := g.fz
  ow := fun i e h => by
    obtain ⟨p, h1, h2, h3⟩ := g.ow i e h
    exact ⟨p, h1, h2, h3.other fun z => by rw [z, hf] at h2; cases h2⟩
  inj := g.inj
/-- what stood at the start, locked as now -/
def lkH (H0 : Hp) (d : Addr) (x : HO) : Hp := fun a => if a = d ∧ H0 d ≠ none then some x else H0 a
theorem lkH_none {x : HO} {a : Addr} : lkH H0 d x a = none ↔ H0 a = none := by
  unfold lkH
  by_cases z : a = d ∧ H0 d ≠ none
  · rw [if_pos z]
    obtain ⟨z1, z2⟩ := z
    subst z1
    exact ⟨fun q => (by cases q), fun q => (z2 q).elim⟩
  · rw [if_neg z]
theorem lkH_ne {x : HO} {a : Addr} (z : a ≠ d) : lkH H0 d x a = H0 a := by
  unfold lkH
  rw [if_neg fun q => z q.1]
theorem lkH_at {x w : HO} (h : lkH H0 d x d = some w) : w = x := by
  unfold lkH at h
  by_cases z : d = d ∧ H0 d ≠ none
  · rw [if_pos z] at h; cases h; rfl
  · rw [if_neg z] at h
    exact (z ⟨rfl, fun q => by rw [q] at h; cases h⟩).elim
theorem Stt.lock (s : Stt K mg F0 H0 F H ρ σ) (hf : F d = some u) (nt : ∀ vs, u ≠ .tup vs) : Stt K mg F0 (lkH H0 d (.frz o u)) F (upd H d (.frz o u)) ρ σ where
  good := s.good.lock hf nt
  ext := ⟨lock_sub s.good.sub hf nt, fun a w e => by
    by_cases z : a = d
    · subst z; rw [lkH_at e, upd_same]
    · rw [upd_ne z]; exact s.ext.keep a w (by rw [lkH_ne z] at e; exact e), s.ext.frz, fun a w e => (s.ext.new a w e).imp_right lkH_none.mpr⟩
  new := fun i e p h1 h2 => lkH_none.mpr (s.new i e p h1 h2)
theorem Stt.unlock (s : Stt K mg F0 (lkH H0 d (.frz o u)) F H ρ σ) (hf : F d = some u) (h0 : ∀ w, H0 d = some w → w = u) (nt : ∀ vs, u ≠ .tup vs) : Stt K mg F0 H0 F (upd H d u) ρ σ where
  good := s.good.unlock hf nt
  ext := ⟨unlock_sub s.good.sub hf nt, fun a w e => by
    by_cases z : a = d
    · subst z; rw [h0 w e, upd_same]
    · rw [upd_ne z]; exact s.ext.keep a w (by rw [lkH_ne z]; exact e), s.ext.frz, fun a w e => (s.ext.new a w e).imp_right lkH_none.mp⟩
  new := fun i e p h1 h2 => lkH_none.mp (s.new i e p h1 h2)
theorem unlock_ext0 (x : Ext F0 (lkH H0 d (.frz o u)) F H) (hf : F d = some u) (h0 : ∀ w, H0 d = some w → w = u) (nt : ∀ vs, u ≠ .tup vs) : Ext F0 H0 F (upd H d u) :=
  ⟨unlock_sub x.sub hf nt, fun a w e => by
    by_cases z : a = d
    · subst z; rw [h0 w e, upd_same]
    · rw [upd_ne z]; exact x.keep a w (by rw [lkH_ne z]; exact e), x.frz, fun a w e => (x.new a w e).imp_right lkH_none.mp⟩
theorem ResR.unlock {s : Sl} {v : V} (r : ResR K mg (lkH H0 d (.frz o u)) F H s v) (hf : F d = some u) : ResR K mg H0 F (upd H d u) s v := by
  cases s with
  | fz e => exact r
  | un => exact r
  | io e p is =>
    obtain ⟨r1, r2, r3⟩ := r
    have ne : p ≠ d := fun z => by rw [z, hf] at r2; cases r2
    exact ⟨r1, r2, by rw [upd_ne ne]; exact r3⟩
  | ow e =>
    obtain ⟨p, h1, h2, h3, h4⟩ := r
    exact ⟨p, h1, lkH_none.mp h2, h3, h4.other fun z => by rw [z, hf] at h3; cases h3⟩
theorem Step.unlock (x : Step F (upd H d (.frz o u)) F' H') (hf : F d = some u) (hd : H d = some u) : Step F H F' (upd H' d u) := fun a w e => by
  obtain ⟨h1, h2⟩ := x a w e
  refine ⟨h1, ?_⟩
  by_cases z : a = d
  · subst z; rw [upd_same, hd]
  · rw [upd_ne z]; rw [upd_ne z] at h2; exact h2

/-! ### keys -/
theorem gives_keys {a : Addr} {ws : List (Key × V)} {ks : List Key} (hF : F a = some (.dK ws)) (hH : H a = some (.frz o (.dK ws))) (e : ws.map (·.1) = ks) : Gives K mg (Itk a o ws) F H (ks.map keyD) := fun F1 H1 sb st i => by
  have h1 : H1 a = some (.frz o (.dK ws)) := (st a _ hF).2.trans hH
  have hl : (ks.map keyD).length = ws.length := by rw [← e, List.length_map, List.length_map]
  refine ⟨fun hi => ⟨⟨h1, by omega⟩, fun x H' hy => ?_⟩, fun hi => ⟨h1, by omega⟩⟩
  obtain ⟨rfl, k, v, hk, rfl⟩ := hy
  exact ⟨F1, keyD k, by rw [← e, List.getElem?_map, List.getElem?_map, hk]; rfl, .refl sb, keyD_rep k⟩
theorem gives_keysT {a : Addr} {ws : List (List Key × V)} {ks : List (List Key)} (hF : F a = some (.dT ws)) (hH : H a = some (.frz o (.dT ws))) (e : ws.map (·.1) = ks) : Gives K mg (Itkt a o ws) F H (ks.map fun k => .tup (k.map keyD)) := fun F1 H1 sb st i => by
  have h1 : H1 a = some (.frz o (.dT ws)) := (st a _ hF).2.trans hH
  have hl : (ks.map fun k => D.tup (k.map keyD)).length = ws.length := by rw [← e, List.length_map, List.length_map]
  refine ⟨fun hi => ⟨⟨h1, by omega⟩, fun x H' hy => ?_⟩, fun hi => ⟨h1, by omega⟩⟩
  obtain ⟨rfl, k, v, q, hk, rfl, hq⟩ := hy
  exact ⟨F1, .tup (k.map keyD), by rw [← e, List.getElem?_map, List.getElem?_map, hk]; rfl, .refl sb, rep_tup.mpr ⟨q, _, rfl, sb.tup _ _ hq, keyD_reps k⟩⟩
end
/-- the keys of a frozen dict -/
@[simp] def keysR (i : Nat) : Rho → R (List D) := fun ρ => match ρ[i]? with
  | some (.fz (.dk ks _)) => .ok (ks.map keyD)
  | some (.fz (.dt ks _)) => .ok (ks.map fun k => .tup (k.map keyD))
  | _ => .no
theorem keys_at {K : PySem.W.Frag} {mg : Str → Option Value} {F H : Hp} {ρ : Rho} {σ : SS} {i : Nat} {ds : List D} (g : GoodM K mg F H ρ σ) (e : keysR i ρ = .ok ds) :
    ∃ d u, F d = some u ∧ (∀ vs, u ≠ .tup vs) ∧ Mut (some u) ∧ ∀ H1 o, H1 d = some (.frz o u) → ∃ J, Gives K mg J F H1 ds ∧ ∀ R : It → Hp → Prop, R J H1 → iKeys (tVar i) σ H1 R := by
  unfold keysR at e
  split at e
  · next ks es h =>
    cases e
    obtain ⟨v, h1, h2⟩ := g.fz i _ h
    obtain ⟨a, ws, rfl, hF, hk, _⟩ := rep_dk.mp h2
    exact ⟨a, _, hF, (fun _ z => nomatch z), True.intro, fun H1 o hH => ⟨_, gives_keys hF hH hk, fun R r => ⟨_, h1, a, o, rfl, .inl ⟨ws, hH, r⟩⟩⟩⟩
  · next ks es h =>
    cases e
    obtain ⟨v, h1, h2⟩ := g.fz i _ h
    obtain ⟨a, ws, rfl, hF, hk, _⟩ := rep_dt.mp h2
    exact ⟨a, _, hF, (fun _ z => nomatch z), True.intro, fun H1 o hH => ⟨_, gives_keysT hF hH hk, fun R r => ⟨_, h1, a, o, rfl, .inr ⟨ws, hH, r⟩⟩⟩⟩
  · cases e
theorem keysR_nx {i : Nat} {ρ : Rho} : NoEx (keysR i ρ) := fun c ns ds h => by unfold keysR at h; split at h <;> cases h

section
variable {X : Cx} {W : WX} {elt tg : Expr} {ifs : List Expr} {scope : Scope} {pos p1 : Pos} {g : D → Rho → R Rho} {c : Rho → R Bool} {f : Rho → R Sl} {ws : List Nat} {s : Sem}
theorem me_lcK (i : Nat) (own : List (Str × Nat)) {x : Str} (hc : X.calm = true) (hN : X.N.Nodup) (ok : BlkOk X.N X.env.scope scope own)
    (hg : ∀ (s : Shared) (H : Hp) (C : Addr) (cl : List (Str × Addr)) (fp : List Addr), MG (X.blk s H scope (compEnvC scope cl C X.env) fp) tg ws g) (ht : ∀ (s : Shared) (H : Hp) (C : Addr) (cl : List (Str × Addr)) (fp : List Addr), MTs (X.blk s H scope (compEnvC scope cl C X.env) fp) ifs c)
    (he : ∀ (s : Shared) (H : Hp) (C : Addr) (cl : List (Str × Addr)) (fp : List Addr), ME (X.blk s H scope (compEnvC scope cl C X.env) fp) W0 elt f) (hx : X.N[i]? = some x := by rfl) (hv : Vis X.env.scope x := by first | exact Or.inl rfl | exact Or.inr (Or.inl rfl) | exact Or.inr (Or.inr rfl))
    (hd : (x == ("__debug__" : Str)) = false := by decide) (hcd : (x == ("__classdict__" : Str)) = false := by decide) (hws : ∀ i ∈ ws, i ∈ own.map (·.2) := by decide) (hs : ∀ x', foldedSetIterable (.Name x p1) X.env x' = pure x' := by intro _; rfl) :
    ME X W (.ListComp elt [⟨tg, .Name x p1, ifs, 0⟩] scope pos) (lcF (keysR i) g c f (own.map (·.2))) := by
  have h1 := pe_lc hc hN (pi_keys (tg := tg) (pe_var hx hv hd hcd)) ok hg ht (te := tM X.K X.mg W0 f) (g := tG X.K X.mg ws g) (tt := tT X.K X.mg W0 c) he hs (pos := pos)
  refine pe_imp (pe_alt h1 (pe_lock h1)) fun σ H Q ⟨F, ρ, gd, q⟩ => ?_
  unfold lcF at q
  cases e1 : keysR i ρ with
  | ex c ns ds => exact (keysR_nx _ _ _ e1).elim
  | no => rw [e1] at q; exact q.elim
  | ok ds =>
    rw [e1, R.bind_ok] at q
    by_cases hlen : ds.length ≤ sizeLine
    · rw [if_pos hlen] at q
      cases e2 : lcL g c f (wipeR ρ (own.map (·.2))) ds with
      | ex c ns es => exact (lcL_nx ds _ _ _ e2).elim
      | no => rw [e2] at q; exact q.elim
      | ok xs =>
        rw [e2, R.bind_ok] at q
        obtain ⟨d, u, hF, nt, mu, gv⟩ := keys_at gd e1
        rcases gd.sub.rd d u hF with hd | ⟨o, hd⟩
        · refine .inr ⟨d, u, hd, mu, fun od => ?_⟩
          have gd' := gd.lock (o := od) hF nt
          obtain ⟨J, gJ, hJ⟩ := gv _ od (upd_same (H := H) (a := d))
          refine hJ _ (lc_core (F1 := F) hws gd' hlen e2 (W := W) (Q := fun v H' => H' d = some (.frz od u) ∧ Q v (upd H' d u)) (fun v F' H' x r => ?_) (.refl gd'.sub) (gJ.x gd'.sub))
          obtain ⟨y1, y2⟩ := unlock_ext x hF hd nt
          refine ⟨y1, q v F' _ y2 ?_⟩
          obtain ⟨p, z1, z2, z3, z4⟩ := r
          refine ⟨p, z1, ?_, z3, z4.other fun z => ?_⟩
          · by_cases z : p = d
            · subst z; rw [upd_same] at z2; cases z2
            · rw [upd_ne z] at z2; exact z2
          · rw [z, y2.frz _ _ hF] at z3; cases z3
        · obtain ⟨J, gJ, hJ⟩ := gv _ o hd
          exact .inl (hJ _ (lc_core hws gd hlen e2 q (.refl gd.sub) (gJ.x gd.sub)))
    · rw [if_neg hlen] at q; exact q.elim
/-- no exception leaves it -/
def noxO : Out → Out
  | .ex _ _ _ _ => .no
  | o => o
@[simp] theorem noxO_nx {ρ : Rho} : noxO (.nx ρ) = .nx ρ := rfl
@[simp] theorem noxO_bk {ρ : Rho} : noxO (.bk ρ) = .bk ρ := rfl
@[simp] theorem noxO_ct {ρ : Rho} : noxO (.ct ρ) = .ct ρ := rfl
@[simp] theorem noxO_rt {v : Sl} : noxO (.rt v) = .rt v := rfl
@[simp] def sForK (i : Nat) (g : D → Rho → R Rho) (s : Sem) : Sem := fun n ρ => rOut ρ (keysR i ρ) fun ds => noxO (sLoop g s n ds ρ)
theorem ms_forK (i : Nat) {x : Str} {body : List Stmt} (hp : PassesOwn (model X.prog X.w) X.A X.env X.xe) (hc : X.calm = true) (hg : MG X tg ws g) (hgn : ∀ d ρ, NoEx (g d ρ)) (hb : MSs X W body s)
    (hx : X.N[i]? = some x := by rfl) (hv : Vis X.env.scope x := by first | exact Or.inl rfl | exact Or.inr (Or.inl rfl) | exact Or.inr (Or.inr rfl)) (hd : (x == ("__debug__" : Str)) = false := by decide) (hcd : (x == ("__classdict__" : Str)) = false := by decide)
    (hs : ∀ x', foldedSetIterable (.Name x p1) X.env x' = pure x' := by intro _; rfl) : MS X W (.For tg (.Name x p1) body [] pos) (sForK i g s) := by
  have h1 := ps_for hp hc (pi_keys (tg := tg) (pe_var hx hv hd hcd)) (g := tG X.K X.mg ws g) (tb := tS X.K X.mg W s) hg hb hs (pos := pos)
  refine ps_imp (ps_alt h1 (ps_lock h1)) fun D σ H ⟨n, F, ρ, F0, H0, st, q⟩ => ?_
  unfold sForK at q
  cases e1 : keysR i ρ with
  | ex c ns ds => exact (keysR_nx _ _ _ e1).elim
  | no => rw [e1] at q; exact q.elim
  | ok ds =>
    rw [e1] at q
    have q : SPost X.K X.mg W F0 H0 F H D (noxO (sLoop g s n ds ρ)) := q
    obtain ⟨d, u, hF, nt, mu, gv⟩ := keys_at st.good e1
    rcases st.good.sub.rd d u hF with hd | ⟨o, hd⟩
    · refine .inr ⟨d, u, hd, mu, fun od => ?_⟩
      have st' := st.lock (o := od) hF nt
      have h0 : ∀ w, H0 d = some w → w = u := fun w e => by
        have := st.ext.keep d w e
        rw [hd] at this; cases this; rfl
      obtain ⟨J, gJ, hJ⟩ := gv _ od (upd_same (H := H) (a := d))
      have fin : ∀ {F' H'}, Step F (upd H d (.frz od u)) F' H' → F' d = some u ∧ H' d = some (.frz od u) := fun {F' H'} x => by
        obtain ⟨y1, y2⟩ := x d u hF
        rw [upd_same] at y2
        exact ⟨y1, y2⟩
      refine hJ _ (for_core hgn (n := n) (W := W) st' ?_ gJ)
      cases e2 : sLoop g s n ds ρ with
      | nx ρ' =>
        rw [e2] at q
        exact fun σ' F' H' x g' => ⟨(fin x).2, q σ' F' _ (x.unlock hF hd) (g'.unlock (fin x).1 h0 nt)⟩
      | bk ρ' =>
        rw [e2] at q
        exact fun σ' F' H' x g' => ⟨(fin x).2, q σ' F' _ (x.unlock hF hd) (g'.unlock (fin x).1 h0 nt)⟩
      | ct ρ' =>
        rw [e2] at q
        exact fun σ' F' H' x g' => ⟨(fin x).2, q σ' F' _ (x.unlock hF hd) (g'.unlock (fin x).1 h0 nt)⟩
      | rt v =>
        rw [e2] at q
        exact fun v F' H' x g' r => ⟨(fin x).2, q v F' _ (x.unlock hF hd) (unlock_ext0 g' (fin x).1 h0 nt) (r.unlock (fin x).1)⟩
      | ex c ns ds ρ' => rw [e2] at q; exact q.elim
      | no => rw [e2] at q; exact q.elim
    · obtain ⟨J, gJ, hJ⟩ := gv _ o hd
      refine .inl (hJ _ (for_core hgn (n := n) (W := W) st ?_ gJ))
      cases e2 : sLoop g s n ds ρ with
      | ex c ns ds ρ' => rw [e2] at q; exact q.elim
      | nx ρ' => rw [e2] at q; exact q
      | bk ρ' => rw [e2] at q; exact q
      | ct ρ' => rw [e2] at q; exact q
      | rt v => rw [e2] at q; exact q
      | no => rw [e2] at q; exact q
end
end Mp

namespace Mp
open PySem PySem.Spec PyProof.Rows L2

/-! ### the empty dict, a copy, a display -/
section
variable {X : Cx} {W : WX} {pos p : Pos} {e k v : Expr} {f fk : Rho → R D} {m : Rho → R Sl}
theorem me_d0K : ME X W (.Dict [] [] pos) (fun _ => .ok (.ow (.dk [] []))) := pe_imp pe_dnewK fun σ H Q ⟨F, ρ, gd, q⟩ => fun p n =>
  q _ F _ (ext_new gd.sub n fun _ z => nomatch z) ⟨p, rfl, n, gd.sub.none n, [], upd_same, rfl, reps_nil.mpr rfl⟩
theorem me_d0T : ME X W (.Dict [] [] pos) (fun _ => .ok (.ow (.dt [] []))) := pe_imp pe_dnewT fun σ H Q ⟨F, ρ, gd, q⟩ => fun p n =>
  q _ F _ (ext_new gd.sub n fun _ z => nomatch z) ⟨p, rfl, n, gd.sub.none n, [], upd_same, rfl, reps_nil.mpr rfl⟩
@[simp] def dictD : List D → R Sl
  | [.dk ks ds] => .ok (.ow (.dk ks ds))
  | _ => .no
theorem dictD_nx (ds : List D) : NoEx (dictD ds) := fun c ns es h => by unfold dictD at h; split at h <;> cases h
theorem sim_dict : SimCS X (fun xs H Q => ∃ a kvs, xs = [V.ref a] ∧ Rd H a (.dK kvs) ∧ ∀ p, H p = none → Q (.ref p) (upd H p (.dK kvs))) dictD := fun F H ds vs s Q sb hs e q => by
  unfold dictD at e
  split at e
  · cases e
    obtain ⟨v, rfl, h⟩ := helds_one hs
    obtain ⟨a, ws, rfl, h1, h2, h3⟩ := h.dk sb
    exact ⟨a, ws, rfl, h1, fun p n => q _ F _ (ext_new sb n fun _ z => nomatch z) ⟨p, rfl, n, sb.none n, ws, upd_same, h2, h3⟩⟩
  · cases e
theorem me_dictc {fs : Rho → R (List D)} (hm : X.mg "dict" = none) (ha : ML X W [e] fs) (hg : Gl X "dict" := by rfl) (he : starEach [e] X.env = (false, eval e X.env) :: starEach [] X.env := by rfl) : ME X W (.Call (.Name "dict" p) [e] [] pos) (opLS dictD fs) :=
  me_callTy call_dictR sim_dict dictD_nx hm (by decide +kernel) ha hg (by decide) (by decide) he rfl
/-- the pairs of a display -/
def QPost (K : PySem.W.Frag) (mg : Str → Option Value) (W : WX) (F H : Hp) (σ : SS) (Q : List (V × V) → Hp → Prop) : R (List (Key × D)) → Prop
  | .ok zs => ∀ (ws : List (Key × V)) F' H', Ext F H F' H' → PZ K mg F' ws zs → Q (ws.map fun kv => (kV kv.1, kv.2)) H'
  | .ex c ns ds => XPost K mg W F H σ c ns ds
  | .no => False
def tQ (K : PySem.W.Frag) (mg : Str → Option Value) (W : WX) (fs : Rho → R (List (Key × D))) (σ : SS) (H : Hp) (Q : List (V × V) → Hp → Prop) : Prop := ∃ F ρ, GoodM K mg F H ρ σ ∧ QPost K mg W F H σ Q (fs ρ)
theorem QPost.ext {K : PySem.W.Frag} {mg : Str → Option Value} {F H F' H' : Hp} {σ : SS} {Q : List (V × V) → Hp → Prop} (x : Ext F H F' H') : ∀ {r : R (List (Key × D))}, QPost K mg W F H σ Q r → QPost K mg W F' H' σ Q r
  | .ok zs, h => fun ws F2 H2 x2 => h ws F2 H2 (x.trans x2)
  | .ex c ns ds, h => XPost.ext x h
  | .no, h => h
def MPs (X : Cx) (W : WX) (pos : Pos) (ks : List (Option Expr)) (vs : List Expr) (fs : Rho → R (List (Key × D))) : Prop := ∃ trs, PPs X pos ks vs trs ∧ ∀ σ H Q, tQ X.K X.mg W fs σ H Q → tPairs trs σ H Q
@[simp] def nilP : Rho → R (List (Key × D)) := fun _ => .ok []
@[simp] def consP (fk : Rho → R D) (m : Rho → R Sl) (fs : Rho → R (List (Key × D))) : Rho → R (List (Key × D)) := fun ρ => (fk ρ).bind fun kd => match asK kd with
  | some k => (toV m ρ).bind fun d => (fs ρ).bind fun r => .ok ((k, d) :: r)
  | none => .no
theorem mps_nil : MPs X W pos [] [] nilP := ⟨[], pps_nil, fun σ H Q ⟨F, ρ, gd, q⟩ => q [] F H (.refl gd.sub) rfl⟩
theorem mps_cons {ks : List (Option Expr)} {vs : List Expr} {fs : Rho → R (List (Key × D))} (hk : MV X W k fk) (hv : ME X W v m) (hr : MPs X W pos ks vs fs) : MPs X W pos (some k :: ks) (v :: vs) (consP fk m fs) := by
  obtain ⟨trs, h1, h2⟩ := hr
  refine ⟨_, pps_cons hk hv h1, fun σ H Q ⟨F, ρ, gd, q⟩ => ?_⟩
  unfold consP at q
  show tV X.K X.mg W fk σ H _
  refine ⟨F, ρ, gd, ?_⟩
  cases e1 : fk ρ with
  | ex c ns ds => rw [e1] at q; exact q
  | no => rw [e1] at q; exact q
  | ok kd =>
    rw [e1, R.bind_ok] at q
    intro x F1 H1 x1 r1
    cases e2 : asK kd with
    | none => rw [e2] at q; exact q.elim
    | some kk =>
      rw [e2] at q
      have ex := asK_held r1 e2
      subst ex
      have q1 : QPost X.K X.mg W F1 H1 σ Q ((toV m ρ).bind fun d => (fs ρ).bind fun r => .ok ((kk, d) :: r)) := QPost.ext x1 q
      show tM X.K X.mg W m σ H1 _
      refine ⟨F1, ρ, gd.ext x1, ?_⟩
      unfold toV at q1
      cases e3 : m ρ with
      | ex c ns ds => rw [e3] at q1; exact q1
      | no => rw [e3] at q1; exact q1
      | ok s =>
        rw [e3, R.bind_ok] at q1
        intro y F2 H2 x2 r2
        obtain ⟨d, F3, e4, x3, r3⟩ := freeze_res x2 r2
        rw [e4, R.bind_ok] at q1
        have q2 : QPost X.K X.mg W F3 H2 σ Q ((fs ρ).bind fun r => .ok ((kk, d) :: r)) := QPost.ext x3 q1
        refine h2 σ H2 _ ⟨F3, ρ, (gd.ext x1).ext x3, ?_⟩
        cases e5 : fs ρ with
        | ex c ns ds => rw [e5] at q2; exact q2
        | no => rw [e5] at q2; exact q2
        | ok zs =>
          rw [e5, R.bind_ok] at q2
          exact fun ws F4 H4 x4 r4 => q2 ((kk, y) :: ws) F4 H4 x4 ⟨_, _, rfl, rfl, r3.mono x4.frz, r4⟩
theorem PZ.merge {K : PySem.W.Frag} {mg : Str → Option Value} {F : Hp} : ∀ {ms : List (Key × V)} {ns : List (Key × D)} {ws : List (Key × V)} {zs : List (Key × D)}, PZ K mg F ms ns → PZ K mg F ws zs → PZ K mg F (mergeK ws ms) (mergeG zs ns)
  | [], ns, ws, zs, e, h => by
    have e : ns = [] := e
    subst e
    exact h
  | m :: ms, ns, ws, zs, e, h => by
    obtain ⟨z, r, e, e1, e2, e3⟩ := e
    subst e
    have h2 : PZ K mg F (putK ws m.1 m.2) (putG zs z.1 z.2) := by rw [e1]; exact h.put e2
    exact PZ.merge (ms := ms) (ns := r) (ws := putK ws m.1 m.2) (zs := putG zs z.1 z.2) e3 h2
@[simp] def dspF (fs : Rho → R (List (Key × D))) : Rho → R Sl := fun ρ => (fs ρ).bind fun zs => if zs.length ≤ 15 then .ok (.ow (dKv (mergeG [] zs))) else .no
theorem ext_new2 {F H F' H' : Hp} {p : Addr} {u u' : HO} (sb : Sub F H) (n : H p = none) (x : Ext F (upd H p u) F' H') (nt : ∀ vs, u' ≠ .tup vs) : F' p = none ∧ Ext F H F' (upd H' p u') := by
  have nF : F' p = none := by
    cases q : F' p with
    | none => rfl
    | some w =>
      rcases x.new p w q with z | z
      · rw [sb.none n] at z; cases z
      · rw [upd_same] at z; cases z
  refine ⟨nF, ⟨fun a w e => ?_, fun a vs e => ?_, fun a vs e => by rw [upd_ne (ne_of_none e nF)]; exact x.sub.rdT a vs e⟩, fun a o e => ?_, x.frz, fun a w e => (x.new a w e).imp_right fun z => ?_⟩
  · rcases x.sub.rd a w e with z | ⟨o, z⟩
    · exact .inl (by rw [upd_ne (ne_of_none e nF)]; exact z)
    · exact .inr ⟨o, by rw [upd_ne (ne_of_none e nF)]; exact z⟩
  · by_cases z : a = p
    · subst z; rw [upd_same] at e; cases e; exact (nt _ rfl).elim
    · rw [upd_ne z] at e; exact x.sub.tup a vs e
  · rw [upd_ne (ne_of_none e n)]; exact x.keep a o (by rw [upd_ne (ne_of_none e n)]; exact e)
  · by_cases q : a = p
    · subst q; exact n
    · rw [upd_ne q] at z; exact z
theorem me_disp {ks : List (Option Expr)} {vs : List Expr} {fs : Rho → R (List (Key × D))} (h : MPs X W pos ks vs fs) (hall : ks.all (·.isSome) = true := by rfl) (hl : ks.length = vs.length := by rfl) (h0 : ks ≠ [] := by exact fun z => nomatch z) (h15 : ks.length ≤ 15 := by decide) :
    ME X W (.Dict ks vs pos) (dspF fs) := by
  obtain ⟨trs, h1, h2⟩ := h
  refine pe_imp (pe_disp h1 hall hl h0 h15) fun σ H Q ⟨F, ρ, gd, q⟩ => fun p n => ?_
  have x0 : Ext F H F (upd H p (.dK [])) := ext_new gd.sub n fun _ z => nomatch z
  refine h2 σ _ _ ⟨F, ρ, gd.ext x0, ?_⟩
  unfold dspF at q
  cases e1 : fs ρ with
  | ex c ns ds => rw [e1] at q; exact XPost.ext x0 q
  | no => rw [e1] at q; exact q
  | ok zs =>
    rw [e1, R.bind_ok] at q
    intro ws F' H' x r
    by_cases hz : zs.length ≤ 15
    · rw [if_pos hz] at q
      obtain ⟨nF, x2⟩ := ext_new2 (u' := .dK (mergeK [] ws)) gd.sub n x fun _ z => nomatch z
      exact ⟨x.keep _ _ upd_same, ws, rfl, by rw [r.length]; exact hz, q _ F' _ x2 ⟨p, rfl, n, nF, own_dkv upd_same (PZ.merge r rfl)⟩⟩
    · rw [if_neg hz] at q; exact q.elim
end

/-! ### o[i] = v -/
/-- what stands behind o[k] = v -/
def putD : D → D → D → R D
  | .dk ks ds, k, v => match asK k with
    | some kk => if ks.length < sizeLine then .ok (dKv (putG (ks.zip ds) kk v)) else .no
    | none => .no
  | .dt ks ds, .tup kd, v => match asKl kd with
    | some kk => if ks.length < sizeLine then .ok (dTv (putG (ks.zip ds) kk v)) else .no
    | none => .no
  | .lst ds, .int j, v => match ixN ds.length j with
    | some n => .ok (.lst (ds.set n v))
    | none => .no
  | .cel p is, .int j, .int z => match ixN is.length j with
    | some n => .ok (.cel p (is.set n z))
    | none => .no
  | _, _, _ => .no
def rSetAny : TSet := fun o i v H Q => rSetL o i v H Q ∨ rSetD o i v H Q
theorem set_any {X : Cx} (hu : X.A.units + 1 < cLine) : PSet X rSetAny := fun pins s σ H o i v ov iv u Q I ro ri rv h => h.elim (set_list pins s σ H o i v ov iv u Q I ro ri rv) (set_dict hu pins s σ H o i v ov iv u Q I ro ri rv)
section
variable {K : PySem.W.Frag} {mg : Str → Option Value} {F H : Hp}
theorem put_own {p : Addr} {od kd d od' : D} {ky v : V} (sb : Sub F H) (o : OwnAt K mg F H p od) (hk : Held K mg F H kd ky) (r : Rep K mg F d v) (e : putD od kd d = .ok od') :
    ∃ u', (∀ vs, u' ≠ HO.tup vs) ∧ OwnAt K mg F (upd H p u') p od' ∧ ∀ Q : Hp → Prop, Q (upd H p u') → rSetAny (.ref p) ky v H Q := by
  cases od with
  | dk ks ds =>
    have e : (match asK kd with | some kk => if ks.length < sizeLine then R.ok (dKv (putG (ks.zip ds) kk d)) else R.no | none => R.no) = R.ok od' := e
    cases e1 : asK kd with
    | none => rw [e1] at e; cases e
    | some kk =>
      rw [e1] at e
      have e : (if ks.length < sizeLine then R.ok (dKv (putG (ks.zip ds) kk d)) else R.no) = R.ok od' := e
      by_cases hl : ks.length < sizeLine
      · rw [if_pos hl] at e; cases e
        obtain ⟨ws, h1, h2, h3⟩ := o
        have ek := asK_held hk e1
        subst ek
        refine ⟨.dK (putK ws kk v), (fun _ z => nomatch z), own_dkv upd_same ((PZ.of h2 h3).put r), fun Q q => .inr ⟨p, _, rfl, DPut.k h1 ?_, q⟩⟩
        rw [← h2, List.length_map] at hl; exact hl
      · rw [if_neg hl] at e; cases e
  | dt ks ds =>
    cases kd with
    | tup kl =>
      have e : (match asKl kl with | some kk => if ks.length < sizeLine then R.ok (dTv (putG (ks.zip ds) kk d)) else R.no | none => R.no) = R.ok od' := e
      cases e1 : asKl kl with
      | none => rw [e1] at e; cases e
      | some kk =>
        rw [e1] at e
        have e : (if ks.length < sizeLine then R.ok (dTv (putG (ks.zip ds) kk d)) else R.no) = R.ok od' := e
        by_cases hl : ks.length < sizeLine
        · rw [if_pos hl] at e; cases e
          obtain ⟨ws, h1, h2, h3⟩ := o
          obtain ⟨b, rfl, hb⟩ := tup_key sb hk e1
          refine ⟨.dT (putK ws kk v), (fun _ z => nomatch z), own_dtv upd_same ((PZ.of h2 h3).put r), fun Q q => .inr ⟨p, _, rfl, DPut.t h1 hb ?_, q⟩⟩
          rw [← h2, List.length_map] at hl; exact hl
        · rw [if_neg hl] at e; cases e
    | _ => cases e
  | lst ds =>
    cases kd with
    | int j =>
      have e : (match ixN ds.length j with | some n => R.ok (D.lst (ds.set n d)) | none => R.no) = R.ok od' := e
      cases e1 : ixN ds.length j with
      | none => rw [e1] at e; cases e
      | some n =>
        rw [e1] at e; cases e
        obtain ⟨vs, h1, h2⟩ := o
        have ek := held_int.mp hk
        subst ek
        exact ⟨.lst (vs.set n v), (fun _ z => nomatch z), ⟨_, upd_same, h2.set r n⟩, fun Q q => .inl ⟨p, vs, j, n, rfl, rfl, h1, by rw [h2.length]; exact e1, q⟩⟩
    | _ => cases e
  | cel q is =>
    cases kd with
    | int j =>
      cases d with
      | int z =>
        have e : (match ixN is.length j with | some n => R.ok (D.cel q (is.set n z)) | none => R.no) = R.ok od' := e
        cases e1 : ixN is.length j with
        | none => rw [e1] at e; cases e
        | some n =>
          rw [e1] at e; cases e
          obtain ⟨rfl, h1⟩ := o
          have ek := held_int.mp hk
          subst ek
          have ez := rep_int.mp r
          subst ez
          refine ⟨.lst ((is.map V.int).set n (.int z)), (fun _ z => nomatch z), ⟨rfl, by rw [upd_same, List.map_set]⟩, fun Q q => .inl ⟨p, is.map V.int, j, n, rfl, rfl, h1, by rw [List.length_map]; exact e1, q⟩⟩
      | _ => cases e
    | _ => cases e
  | _ => cases e
end
/-- targets that may write an owned thing -/
def tH (K : PySem.W.Frag) (mg : Str → Option Value) (g : D → Rho → R Rho) : TG := fun v σ H Q => ∃ F ρ d F0 H0, Stt K mg F0 H0 F H ρ σ ∧ Rep K mg F d v ∧ match g d ρ with
  | .ok ρ' => ∀ σ' F' H', Step F H F' H' → Stt K mg F0 H0 F' H' ρ' σ' → Q σ' H'
  | _ => False
def tHs (K : PySem.W.Frag) (mg : Str → Option Value) (g : List D → Rho → R Rho) : TGs := fun vs σ H Q => ∃ F ρ ds F0 H0, Stt K mg F0 H0 F H ρ σ ∧ Reps K mg F ds vs ∧ match g ds ρ with
  | .ok ρ' => ∀ σ' F' H', Step F H F' H' → Stt K mg F0 H0 F' H' ρ' σ' → Q σ' H'
  | _ => False
abbrev MH (X : Cx) (tg : Expr) (g : D → Rho → R Rho) : Prop := PG X tg (tH X.K X.mg g)
abbrev MHs (X : Cx) (ts : List Expr) (g : List D → Rho → R Rho) : Prop := PGs X ts (tHs X.K X.mg g)
@[simp] def gPut (i : Nat) (f : Rho → R D) : D → Rho → R Rho := fun d ρ => match ρ[i]? with
  | some (.ow od) => (f ρ).bind fun k => (putD od k d).bind fun od' => .ok (ρ.set i (.ow od'))
  | _ => .no
theorem Step.reps {K : PySem.W.Frag} {mg : Str → Option Value} {F H F' H' : Hp} (x : Step F H F' H') {ds : List D} {vs : List V} (r : Reps K mg F ds vs) : Reps K mg F' ds vs := r.mono fun a u e => (x a u e).1
section
variable {X : Cx} {e : Expr} {es : List Expr} {g : D → Rho → R Rho} {gs : List D → Rho → R Rho} {f : Rho → R D} {pos p1 : Pos} {n : Nat} {ws : List Nat}
theorem mh_of (h : MG X e ws g) : MH X e g := pg_imp h fun v σ H Q ⟨F, ρ, d, F0, H0, st, r, q⟩ => by
  refine ⟨F, ρ, d, F0, H0, st, r, ?_⟩
  cases e1 : g d ρ with
  | ok ρ' => rw [e1] at q; exact fun σ' st' _ => q σ' F H .refl st'
  | ex c ns ds => rw [e1] at q; exact q
  | no => rw [e1] at q; exact q
theorem mh_sub (i : Nat) {x : Str} (hu : X.A.units + 180 < cLine) (he : MV X W0 e f) (hx : X.N[i]? = some x := by rfl) (hv : Vis X.env.scope x := by first | exact Or.inl rfl | exact Or.inr (Or.inl rfl) | exact Or.inr (Or.inr rfl)) (hd : (x == ("__debug__" : Str)) = false := by decide)
    (hcd : (x == ("__classdict__" : Str)) = false := by decide) (ha : ∀ v, assign (.Subscript (.Name x p1) e pos) X.env v = (do
      let ov ← holding [v] (eval (.Name x p1) X.env)
      let iv ← holding [v, ov] (eval e X.env)
      standAt pos
      holding [v, ov, iv] (setItem ov iv v)
      release [v, ov, iv] []) := by intro _; rfl) : MH X (.Subscript (.Name x p1) e pos) (gPut i f) := by
  refine pg_imp (pg_sub (pe_var hx hv hd hcd) he (set_any (by omega)) ha) fun v σ H Q ⟨F, ρ, d, F0, H0, st, r, q⟩ => ?_
  cases e1 : ρ[i]? with
  | none => simp [gPut, e1] at q
  | some sl =>
    cases sl with
    | un => simp [gPut, e1] at q
    | io _ _ _ => simp [gPut, e1] at q
    | fz _ => simp [gPut, e1] at q
    | ow od =>
    obtain ⟨p, h1, h2, h3⟩ := st.good.ow i _ e1
    have q : (match (f ρ).bind fun k => (putD od k d).bind fun od' => R.ok (ρ.set i (.ow od')) with
      | .ok ρ' => ∀ σ' F' H', Step F H F' H' → Stt X.K X.mg F0 H0 F' H' ρ' σ' → Q σ' H'
      | _ => False) := by
      have e0 : gPut i f d ρ = (f ρ).bind fun k => (putD od k d).bind fun od' => R.ok (ρ.set i (.ow od')) := by simp [gPut, e1]
      rw [← e0]; exact q
    refine ⟨_, h1, F, ρ, st.good, ?_⟩
    cases e2 : f ρ with
    | ex c ns ds => rw [e2] at q; exact q.elim
    | no => rw [e2] at q; exact q.elim
    | ok kd =>
      rw [e2, R.bind_ok] at q
      intro ky F1 H1 x1 r1
      cases e3 : putD od kd d with
      | ex c ns ds => rw [e3] at q; exact q.elim
      | no => rw [e3] at q; exact q.elim
      | ok od' =>
        rw [e3, R.bind_ok] at q
        have st1 := st.grow x1
        obtain ⟨u', nt, o', k'⟩ := put_own x1.sub (h3.ext x1) r1 (r.mono x1.frz) e3
        obtain ⟨st2, sp2⟩ := st1.write e1 h1 o' nt
        exact k' _ (q σ F1 _ ((x1.step st.good.sub).trans sp2) st2)
theorem mhs_nil : MHs X [] gNl := pgs_imp pgs_nil fun vs σ H Q ⟨F, ρ, ds, F0, H0, st, r, q⟩ => by
  cases ds with
  | nil => exact ⟨reps_nil.mp r, q σ F H .refl st⟩
  | cons d ds => exact q.elim
theorem mhs_cons (h1 : MH X e g) (h2 : MHs X es gs) (hs : (assignEach (e :: es) X.env).map (·.2) = assign e X.env :: (assignEach es X.env).map (·.2) := by rfl) : MHs X (e :: es) (gCn g gs) := by
  refine pgs_imp (pgs_cons h1 h2 hs) fun vs σ H Q ⟨F, ρ, ds, F0, H0, st, r, q⟩ => ?_
  cases ds with
  | nil => exact q.elim
  | cons d ds =>
    obtain ⟨v, vr, rfl, r1, r2⟩ := reps_cons.mp r
    refine ⟨v, vr, rfl, F, ρ, d, F0, H0, st, r1, ?_⟩
    have q : (match (g d ρ).bind (gs ds) with
      | .ok ρ' => ∀ σ' F' H', Step F H F' H' → Stt X.K X.mg F0 H0 F' H' ρ' σ' → Q σ' H'
      | _ => False) := q
    cases e1 : g d ρ with
    | ok ρ1 =>
      rw [e1] at q
      intro σ1 F1 H1 x1 st1
      refine ⟨F1, ρ1, ds, F0, H0, st1, x1.reps r2, ?_⟩
      have q : (match gs ds ρ1 with
        | .ok ρ' => ∀ σ' F' H', Step F H F' H' → Stt X.K X.mg F0 H0 F' H' ρ' σ' → Q σ' H'
        | _ => False) := q
      cases e2 : gs ds ρ1 with
      | ok ρ2 =>
        rw [e2] at q
        exact fun σ2 F2 H2 x2 st2 => q σ2 F2 H2 (x1.trans x2) st2
      | _ => rw [e2] at q; exact q
    | _ => rw [e1] at q; exact q
theorem mh_tup {k : Nat} (hc : X.calm = true) (h : MHs X es gs) (hn : (assignEach es X.env).length = n := by rfl) (hst : (assignEach es X.env).findIdx? (·.1) = none := by rfl) : MH X (.Tuple es k pos) (gTp n gs) := by
  refine pg_imp (pg_or (L2.pg_tup hc h hn hst) (pg_lst hc h hn hst)) fun v σ H Q ⟨F, ρ, d, F0, H0, st, r, q⟩ => ?_
  cases d with
  | tup ds =>
    have q : (match (if ds.length = n then gs ds ρ else R.no) with
      | .ok ρ' => ∀ σ' F' H', Step F H F' H' → Stt X.K X.mg F0 H0 F' H' ρ' σ' → Q σ' H'
      | _ => False) := q
    by_cases hl : ds.length = n
    · rw [if_pos hl] at q
      obtain ⟨a, vs, rfl, la, rs⟩ := rep_tup.mp r
      exact .inl ⟨a, vs, rfl, la.sq st.good.sub, by rw [rs.length]; exact hl, F, ρ, ds, F0, H0, st, rs, q⟩
    · rw [if_neg hl] at q; exact q.elim
  | lst ds =>
    have q : (match (if ds.length = n then gs ds ρ else R.no) with
      | .ok ρ' => ∀ σ' F' H', Step F H F' H' → Stt X.K X.mg F0 H0 F' H' ρ' σ' → Q σ' H'
      | _ => False) := q
    by_cases hl : ds.length = n
    · rw [if_pos hl] at q
      obtain ⟨a, vs, rfl, la, rs⟩ := rep_lst.mp r
      exact .inr ⟨a, vs, rfl, la.sq st.good.sub, by rw [rs.length]; exact hl, F, ρ, ds, F0, H0, st, rs, q⟩
    · rw [if_neg hl] at q; exact q.elim
  | _ => exact q.elim
end
section
variable {X : Cx} {W : WX} {e tg : Expr} {m : Rho → R Sl} {f : Rho → R D} {g : D → Rho → R Rho} {pos : Pos}
theorem ms_asgH (he : ME X W e m) (hg : MH X tg g) (hs : swapsWithSole [tg] e pos.line X.env = pure false := by rfl) (hw : swappedStores [tg] e X.env = pure none := by rfl)
    (h1 : (assignEach [tg] X.env).map (·.2) = [assign tg X.env] := by rfl) : MS X W (.Assign [tg] e pos) (sAsg m g) := by
  refine ps_imp (ps_asg he hg hs hw h1) fun D σ H ⟨n, F, ρ, F0, H0, st, q⟩ => ?_
  have q' : SPost X.K X.mg W F0 H0 F H D (rOut ρ (m ρ) fun s => match slD s with | .ok d => (match g d ρ with | .ok ρ' => .nx ρ' | _ => .no) | _ => .no) := by
    unfold sAsg toV at q
    cases e1 : m ρ with
    | ok s => rw [e1] at q; cases s <;> exact q
    | ex c ns ds => rw [e1] at q; exact q
    | no => rw [e1] at q; exact q
  refine ⟨F, ρ, st.good, ?_⟩
  cases em : m ρ with
  | ex c ns ds => rw [em] at q'; exact fun cl dx F' H' x r => q' cl dx σ F' H' (x.step st.good.sub) (st.grow x) r
  | no => rw [em] at q'; exact q'
  | ok s =>
    rw [em] at q'
    intro v F' H' x r
    obtain ⟨d, F2, e2, x2, r2⟩ := freeze_res x r
    have q2 : SPost X.K X.mg W F0 H0 F H D (match slD s with | .ok d => (match g d ρ with | .ok ρ' => .nx ρ' | _ => .no) | _ => .no) := q'
    rw [e2] at q2
    have q3 : SPost X.K X.mg W F0 H0 F H D (match g d ρ with | .ok ρ' => .nx ρ' | _ => .no) := q2
    refine ⟨F2, ρ, d, F0, H0, st.grow x2, r2, ?_⟩
    cases e3 : g d ρ with
    | ok ρ' =>
      rw [e3] at q3
      exact fun σ' F3 H3 sp st3 => q3 σ' F3 H3 ((x2.step st.good.sub).trans sp) st3
    | ex c ns ds => rw [e3] at q3; exact q3
    | no => rw [e3] at q3; exact q3
/-- d.pop(k) -/
@[simp] def sPop (i : Nat) (f : Rho → R D) : Sem := fun _ ρ => match ρ[i]? with
  | some (.ow (.dk ks ds)) => rOut ρ (f ρ) fun kd => match asK kd with
    | some k => if (valG (ks.zip ds) k).isSome then .nx (ρ.set i (.ow (dKv (dropG (ks.zip ds) k)))) else .no
    | none => .no
  | _ => .no
theorem ms_pop (i : Nat) {x : Str} {p1 apos cpos : Pos} (he : MV X W e f) (mm : M1 X (.Name x p1) "pop" apos e cpos) (hx : X.N[i]? = some x := by rfl) (hv : Vis X.env.scope x := by first | exact Or.inl rfl | exact Or.inr (Or.inl rfl) | exact Or.inr (Or.inr rfl)) (hd : (x == ("__debug__" : Str)) = false := by decide)
    (hcd : (x == ("__classdict__" : Str)) = false := by decide) (hs : swapsWith (.Call (.Attribute (.Name x p1) "pop" apos) [e] [] cpos) none pos.line X.env = pure false := by rfl) :
    MS X W (.Expr (.Call (.Attribute (.Name x p1) "pop" apos) [e] [] cpos) pos) (sPop i f) := by
  refine ps_imp (ps_expr (pe_dpop1 (pe_var hx hv hd hcd) he mm) hs) fun D σ H ⟨n, F, ρ, F0, H0, st, q⟩ => ?_
  unfold sPop at q
  split at q
  · next ks ds e1 =>
    obtain ⟨p, h1, h2, ws, h3, h4, h5⟩ := st.good.ow i _ e1
    refine ⟨_, h1, p, rfl, .inl ⟨ws, .inl h3⟩, ?_⟩
    refine tV_out st q fun kd ky F1 H1 _ x1 st1 r1 q1 => ?_
    cases e2 : asK kd with
    | none => rw [e2] at q1; exact q1.elim
    | some k =>
      rw [e2] at q1
      have q1 : SPost X.K X.mg W F0 H0 F1 H1 D (if (valG (ks.zip ds) k).isSome then .nx (ρ.set i (.ow (dKv (dropG (ks.zip ds) k)))) else .no) := q1
      have pz := (PZ.of h4 h5).mono x1.frz
      rcases pz.val (k := k) with ⟨z1, z2⟩ | ⟨d, v, z1, z2, z3⟩
      · rw [z1] at q1; exact q1.elim
      · rw [z1, if_pos (show (some d).isSome = true from rfl)] at q1
        obtain ⟨st2, sp2⟩ := st1.write (u := .dK (dropK ws k)) (d' := dKv (dropG (ks.zip ds) k)) e1 h1 (own_dkv upd_same pz.drop) fun _ z => nomatch z
        exact ⟨ws, k, v, x1.keep _ _ h3, asK_held r1 e2, z2, q1 σ F1 _ sp2 st2⟩
  · exact q.elim
end

/-! ### sorted(d) -/
def strLe (a b : Str) : Bool := !ltCps b.cps.toList a.cps.toList
def sortS (xs : List Str) : List Str := xs.mergeSort strLe
theorem strLe_iff {a b : Str} : strLe a b = true ↔ ¬ b.cps.toList < a.cps.toList := by unfold strLe; rw [ltCps_eq]; simp
theorem strLe_trans (a b c : Str) (h1 : strLe a b = true) (h2 : strLe b c = true) : strLe a c = true := by
  rw [strLe_iff] at *
  exact List.le_trans (α := Nat) h1 h2
theorem strLe_total (a b : Str) : (strLe a b || strLe b a) = true := by
  rw [Bool.or_eq_true, strLe_iff, strLe_iff]
  rcases List.le_total (α := Nat) a.cps.toList b.cps.toList with h | h
  · exact .inl h
  · exact .inr h
theorem strLe_anti (a b : Str) (h1 : strLe a b = true) (h2 : strLe b a = true) : a = b := by
  rw [strLe_iff] at *
  have h := List.le_antisymm (α := Nat) h1 h2
  cases a; cases b
  congr 1
  exact Array.toList_inj.mp h
theorem risingS_pw : ∀ (p : Str) (l : List Str), risingS p l = true → (p :: l).Pairwise (fun a b => strLe a b = true)
  | p, [], _ => List.pairwise_singleton ..
  | p, x :: r, h => by
    have h : (!ltCps x.cps.toList p.cps.toList && risingS x r) = true := h
    rw [Bool.and_eq_true] at h
    have ih := risingS_pw x r h.2
    refine List.pairwise_cons.mpr ⟨fun y hy => ?_, ih⟩
    rcases List.mem_cons.mp hy with rfl | hy
    · exact h.1
    · exact strLe_trans p x y h.1 ((List.pairwise_cons.mp ih).1 y hy)
theorem sortedS_pw : ∀ (l : List Str), sortedS l = true → l.Pairwise (fun a b => strLe a b = true)
  | [], _ => .nil
  | x :: r, h => risingS_pw x r h
theorem sortS_eq {xs ys : List Str} (h : ys.Perm xs) (s : sortedS ys = true) : ys = sortS xs :=
  List.Perm.eq_of_pairwise (le := fun a b => strLe a b = true) (fun a b _ _ => strLe_anti a b) (sortedS_pw ys s) (List.pairwise_mergeSort strLe_trans strLe_total xs) (h.trans (List.mergeSort_perm xs strLe).symm)
@[simp] def keyStrs : List Key → Option (List Str)
  | [] => some []
  | .inr s :: ks => (keyStrs ks).map (s :: ·)
  | .inl _ :: _ => none
theorem keyStrs_eq : ∀ {ks : List Key} {ss : List Str}, keyStrs ks = some ss → ks = ss.map Sum.inr
  | [], ss, h => by cases h; rfl
  | .inr s :: ks, ss, h => by
    unfold keyStrs at h
    cases e : keyStrs ks with
    | none => rw [e] at h; cases h
    | some r => rw [e] at h; cases h; rw [keyStrs_eq e]; rfl
  | .inl _ :: _, ss, h => by cases h
@[simp] def sortedD : List D → R Sl
  | [.dk ks _] => match keyStrs ks with
    | some ss => if ss.length < 64 then .ok (.ow (.lst ((sortS ss).map .str))) else .no
    | none => .no
  | _ => .no
theorem sortedD_nx (ds : List D) : NoEx (sortedD ds) := fun c ns es h => by
  unfold sortedD at h
  split at h
  · split at h
    · split at h <;> cases h
    · cases h
  · cases h
theorem reps_strs {K : PySem.W.Frag} {mg : Str → Option Value} {F : Hp} : ∀ is : List Str, Reps K mg F (is.map .str) (is.map V.str)
  | [] => reps_nil.mpr rfl
  | i :: is => reps_cons.mpr ⟨_, _, rfl, rep_str.mpr rfl, reps_strs is⟩
section
variable {X : Cx} {W : WX} {e : Expr} {fs : Rho → R (List D)} {p pos : Pos}
theorem sim_sorted : SimCS X (fun xs H Q => ∃ (a : Addr) (kvs : List (Key × V)) (ks : List Str), xs = [.ref a] ∧ Rd H a (.dK kvs) ∧ kvs.map (·.1) = ks.map Sum.inr ∧ ks.length < 64 ∧
    ∀ ys p, ys.Perm ks → sortedS ys = true → H p = none → Q (.ref p) (upd H p (.lst (ys.map V.str)))) sortedD := fun F H ds vs s Q sb hs e q => by
  unfold sortedD at e
  split at e
  · next ks es =>
    cases e1 : keyStrs ks with
    | none => rw [e1] at e; cases e
    | some ss =>
      rw [e1] at e
      have e : (if ss.length < 64 then R.ok (Sl.ow (.lst ((sortS ss).map .str))) else .no) = R.ok s := e
      by_cases hl : ss.length < 64
      · rw [if_pos hl] at e; cases e
        obtain ⟨v, rfl, h⟩ := helds_one hs
        obtain ⟨a, ws, rfl, h1, h2, h3⟩ := h.dk sb
        refine ⟨a, ws, ss, rfl, h1, by rw [h2, keyStrs_eq e1], hl, fun ys p pm st n => ?_⟩
        rw [sortS_eq pm st]
        exact q _ F _ (ext_new sb n fun _ z => nomatch z) ⟨p, rfl, n, sb.none n, _, upd_same, reps_strs _⟩
      · rw [if_neg hl] at e; cases e
  · cases e
theorem me_sortedc (hc : X.calm = true) (hm : X.mg "sorted" = none) (ha : ML X W [e] fs) (hg : Gl X "sorted" := by rfl) (he : starEach [e] X.env = (false, eval e X.env) :: starEach [] X.env := by rfl) : ME X W (.Call (.Name "sorted" p) [e] [] pos) (opLS sortedD fs) :=
  me_callB (call_sortedD hc) sim_sorted sortedD_nx hm PyProof.Rows.boot_sorted ha hg (by decide) (by decide) he rfl
end
/-! ### a tuple of texts at a module's top -/
def strsOf : List Value → Option (List Str)
  | [] => some []
  | .str x _ :: r => (strsOf r).map (x :: ·)
  | _ => none
theorem strsOf_vals : ∀ {us : List Value} {ss : List Str}, strsOf us = some ss → Vals (ss.map V.str) us
  | [], ss, h => by cases h; exact .nil
  | u :: us, ss, h => by
    cases u with
    | str x t =>
      have h : (strsOf us).map (x :: ·) = some ss := h
      cases e : strsOf us with
      | none => rw [e] at h; cases h
      | some r => rw [e] at h; cases h; exact .cons ⟨t, rfl⟩ (strsOf_vals e)
    | _ => cases h
theorem strsOf_len : ∀ {us : List Value} {ss : List Str}, strsOf us = some ss → us.length = ss.length := fun h => by
  have := (strsOf_vals h).length
  simpa using this.symm
theorem wt_of {K : PySem.W.Frag} {a : Addr} {od : Option Addr} {its : Array Value} {n : Nat} {sl : Array (Option Value)} {ss : List Str} (h : K.lookup a = some ⟨.type "tuple", od, .seq its n, sl⟩) (e : strsOf its.toList = some ss) (hl : ss.length ≤ sizeLine) : WtAt K a (ss.map V.str) :=
  .inr ⟨_, its, n, h, rfl, rfl, by rw [← Array.length_toList, strsOf_len e]; exact hl, strsOf_vals e⟩
theorem mv_gs {X : Cx} {W : WX} {x : Str} {ss : List Str} {pos : Pos} (hm : ∃ a, X.mg x = some (.ref a) ∧ WtAt X.K a (ss.map V.str)) (hg : Gl X x := by rfl) (hd : (x == ("__debug__" : Str)) = false := by decide) : MV X W (.Name x pos) (cV (.wt (ss.map .str))) := by
  obtain ⟨a, hm, w⟩ := hm
  exact mv_c (pe_glob hg hm (v := .ref a) rfl hd) fun _ _ => .inl (rep_wt.mpr ⟨a, _, rfl, w, reps_strs ss⟩)
@[simp] def cF (d : D) : Rho → R Sl := fun _ => .ok (.fz d)
theorem me_gs {X : Cx} {W : WX} {x : Str} {ss : List Str} {pos : Pos} (hm : ∃ a, X.mg x = some (.ref a) ∧ WtAt X.K a (ss.map V.str)) (hg : Gl X x := by rfl) (hd : (x == ("__debug__" : Str)) = false := by decide) : ME X W (.Name x pos) (cF (.wt (ss.map .str))) := by
  obtain ⟨a, hm, w⟩ := hm
  refine pe_imp (pe_glob hg hm (v := .ref a) rfl hd) fun σ H Q ⟨F, ρ, g, q⟩ => q (.ref a) F H (.refl g.sub) (rep_wt.mpr ⟨a, _, rfl, w, reps_strs ss⟩)
end Mp

namespace Mp
open PySem PySem.Spec PyProof.Rows L2

/-! ### a list of ints that a def is handed and writes -/
def ers (p : Addr) (H : Hp) : Hp := fun a => if a = p then none else H a
section
variable {K : PySem.W.Frag} {mg : Str → Option Value} {F H F' H' F0 H0 : Hp} {p : Addr} {ρ : Rho} {σ : SS}
theorem ers_same : ers p H p = none := if_pos rfl
theorem ers_ne {a : Addr} (h : a ≠ p) : ers p H a = H a := if_neg h
theorem ers_some {a : Addr} {o : HO} (h : ers p H a = some o) : a ≠ p ∧ H a = some o := by
  by_cases z : a = p
  · subst z; rw [ers_same] at h; cases h
  · rw [ers_ne z] at h; exact ⟨z, h⟩
theorem ers_none {a : Addr} (h : ers p H a = none) : a = p ∨ H a = none := by
  by_cases z : a = p
  · exact .inl z
  · rw [ers_ne z] at h; exact .inr h
theorem Ext.ers_of (s : Sub F H) : Ext F (ers p H) F H := ⟨s, fun a o e => (ers_some e).2, fun _ _ e => e, fun _ _ e => .inl e⟩
/-- a step that writes the cell at p alone -/
theorem Ext.stepE (s : Sub F H) (np : F p = .none) (x : Ext F (ers p H) F' H') : Step F H F' H' := fun a u e => by
  refine ⟨x.frz a u e, ?_⟩
  have z : a ≠ p := fun z => by rw [z, np] at e; cases e
  rcases s.rd a u e with q | ⟨o, q⟩
  · rw [q]; exact x.keep a _ (by rw [ers_ne z]; exact q)
  · rw [q]; exact x.keep a _ (by rw [ers_ne z]; exact q)
theorem OwnAt.ers {q : Addr} (hq : q ≠ p) : ∀ {e : D}, OwnAt K mg F H q e → OwnAt K mg F (Mp.ers p H) q e := fun {e} h => by
  cases e with
  | lst ds => obtain ⟨vs, a, b⟩ := h; exact ⟨vs, by rw [ers_ne hq]; exact a, b⟩
  | dk ks ds => obtain ⟨vs, a, b⟩ := h; exact ⟨vs, by rw [ers_ne hq]; exact a, b⟩
  | dt ks ds => obtain ⟨vs, a, b⟩ := h; exact ⟨vs, by rw [ers_ne hq]; exact a, b⟩
  | obj c ns ds => obtain ⟨C, dx, fs, g, a, b⟩ := h; exact ⟨C, dx, fs, g, by rw [ers_ne hq]; exact a, b⟩
  | cel r is => exact ⟨h.1, by rw [ers_ne hq]; exact h.2⟩
  | _ => exact h.elim
/-- the owned slot j was written elsewhere -/
theorem Stt.wrote (s : Stt K mg F0 H0 F H ρ σ) {d d' : D} {j : Nat} (h1 : ρ[j]? = some (.ow d)) (h2 : σ[j]? = some (some (.ref p))) (x : Ext F (ers p H) F' H') (np' : F' p = none) (o : OwnAt K mg F' H' p d') : Stt K mg F0 H0 F' H' (ρ.set j (.ow d')) σ := by
  have np : F p = none := by
    obtain ⟨q, e, n, _⟩ := s.good.ow j d h1
    rw [h2] at e; cases e; exact n
  have n0 := s.new j d p h1 h2
  have hlt : j < ρ.length := (List.getElem?_eq_some_iff.mp h1).1
  have look : ∀ {i : Nat} {t : Sl}, (ρ.set j (.ow d'))[i]? = some t → (i = j ∧ t = .ow d') ∨ (i ≠ j ∧ ρ[i]? = some t) := fun {i t} e => by
    by_cases hj : i = j
    · subst hj
      rw [List.getElem?_set_self hlt] at e; cases e; exact .inl ⟨rfl, rfl⟩
    · rw [List.getElem?_set_ne (Ne.symm hj)] at e
      exact .inr ⟨hj, e⟩
  have own : ∀ {i : Nat} {e : D}, (ρ.set j (.ow d'))[i]? = some (.ow e) → ∃ e', ρ[i]? = some (.ow e') := fun {i e} h => by
    rcases look h with ⟨rfl, _⟩ | ⟨_, a⟩
    · exact ⟨d, h1⟩
    · exact ⟨e, a⟩
  refine ⟨⟨x.sub, by simpa using s.good.len, fun i e h => ?_, fun i e h => ?_, fun i k e e' q a b c1 c2 => ?_⟩, ⟨x.sub, fun a o e => ?_, fun a u e => x.frz a u (s.ext.frz a u e), fun a u e => ?_⟩, fun i e q a b => ?_⟩
  · rcases look h with ⟨_, z⟩ | ⟨_, a⟩
    · cases z
    · obtain ⟨v, e1, e2⟩ := s.good.fz i e a
      exact ⟨v, e1, e2.mono x.frz⟩
  · rcases look h with ⟨rfl, z⟩ | ⟨hj, a⟩
    · cases z; exact ⟨p, h2, np', o⟩
    · obtain ⟨q, e1, n, z⟩ := s.good.ow i e a
      have hq : q ≠ p := fun z => by subst z; exact hj (s.good.inj i j e d q a h1 e1 h2)
      have zo : OwnAt K mg F (ers p H) q e := OwnAt.ers hq z
      refine ⟨q, e1, ?_, zo.ext x⟩
      cases fq : F' q with
      | none => rfl
      | some u =>
        rcases x.new q u fq with w | w
        · rw [n] at w; cases w
        · obtain ⟨o', ho⟩ := zo.there
          rw [w] at ho; cases ho
  · obtain ⟨e1, a1⟩ := own a
    obtain ⟨e2, b1⟩ := own b
    exact s.good.inj i k e1 e2 q a1 b1 c1 c2
  · have z : a ≠ p := fun z => by rw [z, n0] at e; cases e
    exact x.keep a o (by rw [ers_ne z]; exact s.ext.keep a o e)
  · rcases x.new a u e with w | w
    · exact s.ext.new a u w
    · rcases ers_none w with rfl | w
      · rw [np'] at e; cases e
      · exact .inr (s.ext.none w)
  · obtain ⟨e1, a1⟩ := own a
    exact s.new i e1 q a1 b
end
/-- the last argument is such a list -/
def SpP (K : PySem.W.Frag) (mg : Str → Option Value) (np : Nat) (mir : List D → List Int → R (D × List Int)) : Sp := fun vs H Q E => ∃ F ds ws p is, vs = ws ++ [.ref p] ∧ Sub F H ∧ F p = none ∧ H p = some (.lst (is.map V.int)) ∧ Reps K mg F ds ws ∧ ds.length + 1 = np ∧
  match mir ds is with
  | .ok (d, is') => ∀ v F' H', Ext F (ers p H) F' H' → Rep K mg F' d v → F' p = none → H' p = some (.lst (is'.map V.int)) → Q v H'
  | _ => False
structure FnP (P : Program) (w : World) (K : PySem.W.Frag) (mg : Str → Option Value) (base : Heap) (x : Str) (k np : Nat) (mir : List D → List Int → R (D × List Int)) : Prop where
  ex : ∃ (f : Addr) (fd : FuncData) (ps : List Str), FnOk P w K mg base (L2.CX P w) k f fd ps (SpP K mg np mir) ∧ mg x = some (.ref f) ∧ PySem.W.keepIn K (.ref f) = true ∧ Binds K fd ps []
def startP (n : Nat) (ds : List D) (p : Addr) (is : List Int) : Rho := ds.map .fz ++ .ow (.cel p is) :: List.replicate (n - (ds.length + 1)) .un
def outP (p : Addr) : Out → R (D × List Int)
  | .rt (.io d q is) => if q = p then .ok (d, is) else .no
  | _ => .no
theorem start_goodP {K : PySem.W.Frag} {mg : Str → Option Value} {F H : Hp} {N : List Str} {ds : List D} {ws : List V} {p : Addr} {is : List Int} (sb : Sub F H) (r : Reps K mg F ds ws) (np : F p = none) (hp : H p = some (.lst (is.map V.int))) : Stt K mg F (ers p H) F H (startP N.length ds p is) (L2.start N (ws ++ [.ref p])) := by
  have hl := r.length
  have look : ∀ {i : Nat} {t : Sl}, (startP N.length ds p is)[i]? = some t → t = .un ∨ (∃ d, t = .fz d ∧ ds[i]? = some d) ∨ (i = ds.length ∧ t = .ow (.cel p is)) := fun {i t} e => by
    unfold startP at e
    by_cases hi : i < ds.length
    · rw [List.getElem?_append_left (by simpa using hi), List.getElem?_map, List.getElem?_eq_getElem hi] at e
      cases e
      exact .inr (.inl ⟨_, rfl, List.getElem?_eq_getElem hi⟩)
    · rw [List.getElem?_append_right (by simpa using hi), List.length_map] at e
      by_cases h0 : i = ds.length
      · subst h0
        rw [Nat.sub_self] at e
        cases e
        exact .inr (.inr ⟨rfl, rfl⟩)
      · obtain ⟨k, hk⟩ : ∃ k, i - ds.length = k + 1 := ⟨i - ds.length - 1, by omega⟩
        rw [hk, List.getElem?_cons_succ, List.getElem?_replicate] at e
        split at e
        · cases e; exact .inl rfl
        · cases e
  have pat : (L2.start N (ws ++ [.ref p]))[ds.length]? = some (some (.ref p)) := by
    unfold L2.start
    rw [List.map_append, List.getElem?_append_left (by simp [hl]), List.getElem?_append_right (by simp [hl]), List.length_map, hl, Nat.sub_self]
    rfl
  refine ⟨⟨sb, ?_, fun i d e => ?_, fun i d e => ?_, fun i j d e q a b _ _ => ?_⟩, Ext.ers_of sb, fun i d q a b => ?_⟩
  · unfold startP L2.start
    simp only [List.length_append, List.length_map, List.length_replicate, List.length_cons, List.length_nil, hl]
    omega
  · rcases look e with z | ⟨d', z, q⟩ | ⟨_, z⟩
    · cases z
    · cases z
      obtain ⟨v, h1, h2⟩ := r.get q
      refine ⟨v, ?_, h2⟩
      have hi : i < ws.length := (List.getElem?_eq_some_iff.mp h1).1
      unfold L2.start
      rw [List.map_append, List.getElem?_append_left (by simp; omega), List.getElem?_append_left (by simpa using hi), List.getElem?_map, h1]
      rfl
    · cases z
  · rcases look e with z | ⟨d', z, _⟩ | ⟨h, z⟩
    · cases z
    · cases z
    · cases z; subst h; exact ⟨p, pat, np, rfl, hp⟩
  · rcases look a with z | ⟨d', z, _⟩ | ⟨h, z⟩
    · cases z
    · cases z
    · rcases look b with z' | ⟨d', z', _⟩ | ⟨h', z'⟩
      · cases z'
      · cases z'
      · rw [h, h']
  · rcases look a with z | ⟨d', z, _⟩ | ⟨h, z⟩
    · cases z
    · cases z
    · subst h; rw [pat] at b; cases b; exact ers_same
noncomputable def comR {α : Type} (f : Addr → R α) : R α := by
  classical exact if h : ∃ r, ∀ p, f p = r then h.choose else .no
theorem comR_eq {α : Type} {f : Addr → R α} {r : R α} (h : ∀ p, f p = r) : comR f = r := by
  unfold comR
  have hx : ∃ r, ∀ p, f p = r := ⟨r, h⟩
  rw [dif_pos hx]
  exact (hx.choose_spec 0).symm.trans (h 0)
theorem comR_or {α : Type} (f : Addr → R α) : comR f = .no ∨ ∀ p, f p = comR f := by
  unfold comR
  by_cases hx : ∃ r, ∀ p, f p = r
  · rw [dif_pos hx]; exact .inr hx.choose_spec
  · rw [dif_neg hx]; exact .inl rfl
section
variable {P : Program} {w : World} {K : PySem.W.Frag} {mg : Str → Option Value} {base : Heap}
theorem fnp_of {x qual : Str} {st : Stmt} {f : Addr} {fd : FuncData} {N ps : List Str} {k np : Nat} {mir : List D → List Int → R (D × List Int)} {s : Sem} (F : Fun K x qual st f fd) (S : FnScope N ps (defScope st)) (gm : mg x = some (.ref f)) (b : Binds K fd ps []) (hnp : np = ps.length)
    (hb : ∀ (cdv : Value) (A : Around) (outer : List Env) (s0 : Shared) (H : Hp) (E : XK), Room k (A.deeper (envOfC qual (defScope st) s0.heap.objs.size f cdv)) →
      MSs (cxOf (L2.CX P w) P w K mg base N qual (defScope st) f cdv A outer s0 H E) (fun cls d _ H => E cls d H) (defBody st) s)
    (hm : ∀ ds is, ds.length + 1 = np → mir ds is = .no ∨ ∃ n, ∀ p, outP p (s n (startP N.length ds p is)) = mir ds is) : FnP P w K mg base x (k + 1) np mir := by
  refine ⟨f, fd, ps, F.okX S (fun vs H Q E h => ?_) (fun cdv A outer s0 H vs Q E hr h => ?_), gm, F.kp, b⟩
  · obtain ⟨Fz, ds, ws, p, is, rfl, sb, n1, n2, r, hl, _⟩ := h
    rw [List.length_append, r.length, List.length_singleton, hl, hnp]
  · obtain ⟨Fz, ds, ws, p, is, rfl, sb, n1, n2, r, hl, q⟩ := h
    refine ⟨_, hb cdv A outer s0 H E hr, ?_⟩
    rcases hm ds is hl with e | ⟨n, e⟩
    · rw [e] at q; exact q.elim
    · have e := e p
      refine ⟨n, Fz, startP N.length ds p is, Fz, ers p H, start_goodP sb r n1 n2, ?_⟩
      cases e2 : s n (startP N.length ds p is) with
      | rt v =>
        rw [e2] at e
        cases v with
        | io d p' is' =>
          have e5 : (if p' = p then R.ok (d, is') else .no) = mir ds is := e
          clear e
          by_cases hp : p' = p
          · rw [if_pos hp] at e5
            subst hp
            rw [← e5] at q
            exact fun v F' H' _ x r => q v F' H' x r.1 r.2.1 r.2.2
          · rw [if_neg hp] at e5
            rw [← e5] at q; exact q.elim
        | _ => rw [← e] at q; exact q.elim
      | _ => rw [e2] at e; rw [← e] at q; exact q.elim
end

/-! ### expressions that write -/
def tX (K : PySem.W.Frag) (mg : Str → Option Value) (f : Rho → R (D × Rho)) : TE := fun σ H Q => ∃ F ρ F0 H0, Stt K mg F0 H0 F H ρ σ ∧ match f ρ with
  | .ok (d, ρ') => ∀ v F' H', Step F H F' H' → Stt K mg F0 H0 F' H' ρ' σ → Rep K mg F' d v → Q v H'
  | _ => False
abbrev MX (X : Cx) (e : Expr) (f : Rho → R (D × Rho)) : Prop := PE X e (tX X.K X.mg f)
@[simp] def xOf (m : Rho → R Sl) : Rho → R (D × Rho) := fun ρ => (toV m ρ).bind fun d => .ok (d, ρ)
@[simp] def op2X (g : D → D → R D) (fa fb : Rho → R (D × Rho)) : Rho → R (D × Rho) := fun ρ => (fa ρ).bind fun a => (fb a.2).bind fun b => (g a.1 b.1).bind fun d => if flatD d then .ok (d, b.2) else .no
@[simp] def ixX (fa fb : Rho → R (D × Rho)) : Rho → R (D × Rho) := fun ρ => (fa ρ).bind fun a => (fb a.2).bind fun b => (ixD a.1 b.1).bind fun d => .ok (d, b.2)
@[simp] def callP (j : Nat) (mir : List D → List Int → R (D × List Int)) (fs : Rho → R (List D)) : Rho → R (D × Rho) := fun ρ => (fs ρ).bind fun ds => match ρ[j]? with
  | some (.ow (.lst es)) => match asInts es with
    | some is => (mir ds is).bind fun r => .ok (r.1, ρ.set j (.ow (.lst (r.2.map .int))))
    | none => .no
  | some (.ow (.cel p is)) => (mir ds is).bind fun r => .ok (r.1, ρ.set j (.ow (.cel p r.2)))
  | _ => .no
@[simp] def sSetX (i : Nat) (f : Rho → R (D × Rho)) : Sem := fun _ ρ => match f ρ with
  | .ok (d, ρ') => .nx (ρ'.set i (.fz d))
  | _ => .no
@[simp] def sRetP (i : Nat) (m : Rho → R Sl) : Sem := fun _ ρ => rOut ρ (toV m ρ) fun d => match ρ[i]? with
  | some (.ow (.cel p is)) => .rt (.io d p is)
  | _ => .no
def tAP (K : PySem.W.Frag) (mg : Str → Option Value) (fs : Rho → R (List D)) (j : Nat) : TA := fun σ H Q => ∃ F ρ p, GoodM K mg F H ρ σ ∧ σ[j]? = some (some (.ref p)) ∧ match fs ρ with
  | .ok ds => ∀ ws F' H', Ext F H F' H' → Reps K mg F' ds ws → Q (ws ++ [.ref p]) H'
  | _ => False
section
variable {X : Cx} {W : WX} {e a b : Expr} {es : List Expr} {m : Rho → R Sl} {f fa fb : Rho → R (D × Rho)} {fs : Rho → R (List D)} {p pos : Pos} {j : Nat}
theorem mx_of (he : ME X W0 e m) : MX X e (xOf m) := pe_imp he fun σ H Q ⟨F, ρ, F0, H0, st, q⟩ => by
  refine ⟨F, ρ, st.good, ?_⟩
  unfold xOf toV at q
  cases e1 : m ρ with
  | ex c ns ds => rw [e1] at q; exact q.elim
  | no => rw [e1] at q; exact q.elim
  | ok s =>
    rw [e1] at q
    intro v F1 H1 x1 r1
    obtain ⟨d, F2, e2, x2, r2⟩ := freeze_res x1 r1
    have q : match ((R.ok s).bind slD).bind fun d => R.ok (d, ρ) with | .ok (d, ρ') => ∀ v F' H', Step F H F' H' → Stt X.K X.mg F0 H0 F' H' ρ' σ → Rep X.K X.mg F' d v → Q v H' | _ => False := q
    rw [R.bind_ok, e2] at q
    exact q v F2 H1 (x2.step st.good.sub) (st.grow x2) r2
/-- one such expression, then the rest -/
theorem tX_then {K : PySem.W.Frag} {mg : Str → Option Value} {F0 H0 F H : Hp} {ρ : Rho} {σ : SS} {d : D} {ρ' : Rho} {Q : VK} (st : Stt K mg F0 H0 F H ρ σ) (e : f ρ = .ok (d, ρ')) (h : ∀ v F' H', Step F H F' H' → Stt K mg F0 H0 F' H' ρ' σ → Rep K mg F' d v → Q v H') : tX K mg f σ H Q := by
  refine ⟨F, ρ, F0, H0, st, ?_⟩
  rw [e]; exact h
theorem mx_op {op : Operator} {r : R2} {g : D → D → R D} (ho : OpR X (binaryOp op) r) (hs : Sim2 X r g) (ha : MX X a fa) (hb : MX X b fb) : MX X (.BinOp a op b pos) (op2X g fa fb) := pe_imp (pe_op ho ha hb) fun σ H Q ⟨F, ρ, F0, H0, st, q⟩ => by
  unfold op2X at q
  cases e1 : fa ρ with
  | ex c ns ds => rw [e1] at q; exact q.elim
  | no => rw [e1] at q; exact q.elim
  | ok z =>
    obtain ⟨d1, ρ1⟩ := z
    rw [e1, R.bind_ok] at q
    refine tX_then st e1 fun v1 F1 H1 s1 st1 r1 => ?_
    cases e2 : fb ρ1 with
    | ex c ns ds => rw [e2] at q; exact q.elim
    | no => rw [e2] at q; exact q.elim
    | ok z =>
      obtain ⟨d2, ρ2⟩ := z
      rw [e2, R.bind_ok] at q
      refine tX_then st1 e2 fun v2 F2 H2 s2 st2 r2 => ?_
      cases e3 : g d1 d2 with
      | ex c ns ds => rw [e3] at q; exact q.elim
      | no => rw [e3] at q; exact q.elim
      | ok d =>
        rw [e3, R.bind_ok] at q
        cases fl : flatD d with
        | false => rw [if_neg (by rw [fl]; decide)] at q; exact q.elim
        | true =>
          rw [if_pos fl] at q
          exact hs F2 H2 d1 d2 v1 v2 d Q st2.good.sub (.inl (r1.mono fun a u e => (s2 a u e).1)) (.inl r2) e3 fun v hv => q v F2 H2 (s1.trans s2) st2 (held_flat fl hv)
theorem mx_ix (hu : X.A.units + 180 < cLine) (ha : MX X a fa) (hb : MX X b fb) (hs : PlainIx b := by exact fun _ _ => rfl) : MX X (.Subscript a b pos) (ixX fa fb) := pe_imp (pe_ix (ix_seq.or (ix_dict (by omega))) ha hb hs) fun σ H Q ⟨F, ρ, F0, H0, st, q⟩ => by
  unfold ixX at q
  cases e1 : fa ρ with
  | ex c ns ds => rw [e1] at q; exact q.elim
  | no => rw [e1] at q; exact q.elim
  | ok z =>
    obtain ⟨d1, ρ1⟩ := z
    rw [e1, R.bind_ok] at q
    refine tX_then st e1 fun v1 F1 H1 s1 st1 r1 => ?_
    cases e2 : fb ρ1 with
    | ex c ns ds => rw [e2] at q; exact q.elim
    | no => rw [e2] at q; exact q.elim
    | ok z =>
      obtain ⟨d2, ρ2⟩ := z
      rw [e2, R.bind_ok] at q
      refine tX_then st1 e2 fun v2 F2 H2 s2 st2 r2 => ?_
      cases e3 : ixD d1 d2 with
      | ex c ns ds => rw [e3] at q; exact q.elim
      | no => rw [e3] at q; exact q.elim
      | ok d =>
        rw [e3, R.bind_ok] at q
        exact sim_ix F2 H2 d1 d2 v1 v2 (.fz d) Q st2.good.sub (.inl (r1.mono fun a u e => (s2 a u e).1)) (.inl r2) (by show (ixD d1 d2).bind _ = _; rw [e3]; rfl) fun v F' H' x r => q v F' H' ((s1.trans s2).trans (x.step st2.good.sub)) (st2.grow x) r
theorem map_last (j : Nat) {x : Str} {p1 : Pos} (hx : X.N[j]? = some x := by rfl) (hv : Vis X.env.scope x := by first | exact Or.inl rfl | exact Or.inr (Or.inl rfl) | exact Or.inr (Or.inr rfl)) (hd : (x == ("__debug__" : Str)) = false := by decide)
    (hcd : (x == ("__classdict__" : Str)) = false := by decide) (hst : starEach [.Name x p1] X.env = (false, eval (.Name x p1) X.env) :: starEach [] X.env := by rfl) : PA X [.Name x p1] (tAP X.K X.mg nilA j) :=
  pa_imp (pa_cons (pe_var hx hv hd hcd) pa_nil hst) fun σ H Q ⟨F, ρ, p, g, hp, q⟩ => ⟨_, hp, q [] F H (.refl g.sub) (reps_nil.mpr rfl)⟩
theorem map_cons (he : ME X W0 e m) (hs : PA X es (tAP X.K X.mg fs j)) (hst : starEach (e :: es) X.env = (false, eval e X.env) :: starEach es X.env := by rfl) : PA X (e :: es) (tAP X.K X.mg (consA (toV m) fs) j) := by
  refine pa_imp (pa_cons he hs hst) fun σ H Q ⟨F, ρ, p, g, hp, q⟩ => ?_
  show tM X.K X.mg W0 m σ H fun x H1 => tAP X.K X.mg fs j σ H1 fun xs H2 => Q (x :: xs) H2
  refine ⟨F, ρ, g, ?_⟩
  unfold consA toV at q
  cases e1 : m ρ with
  | ex c ns ds => rw [e1] at q; exact q.elim
  | no => rw [e1] at q; exact q.elim
  | ok s =>
    rw [e1, R.bind_ok] at q
    intro v F1 H1 x1 r1
    obtain ⟨d, F2, e2, x2, r2⟩ := freeze_res x1 r1
    rw [e2, R.bind_ok] at q
    refine ⟨F2, ρ, p, g.ext x2, hp, ?_⟩
    cases e3 : fs ρ with
    | ex c ns ds => rw [e3] at q; exact q.elim
    | no => rw [e3] at q; exact q.elim
    | ok ds =>
      rw [e3, R.bind_ok] at q
      exact fun ws F3 H3 x3 r3 => q (v :: ws) F3 H3 (x2.trans x3) (reps_cons.mpr ⟨v, ws, rfl, r2.mono x3.frz, r3⟩)
theorem mx_call {k np : Nat} {mir : List D → List Int → R (D × List Int)} {x : Str} (G : FnP X.prog X.w X.K X.mg X.base x k np mir) (tk : Takes X W) (hr : Room k X.A) (ha : PA X (e :: es) (tAP X.K X.mg fs j)) (hnp : (e :: es).length = np := by rfl) (hlen : ∀ ρ ds, fs ρ = .ok ds → ds.length + 1 = np) (hg : Gl X x := by rfl)
    (hdb : (x == ("__debug__" : Str)) = false := by decide) (he : starEach (e :: es) X.env = (false, eval e X.env) :: starEach es X.env := by rfl) (hpl : (backTo pos (starEach es X.env)).any (·.1) = false := by rfl) :
    MX X (.Call (.Name x p) (e :: es) [] pos) (callP j mir fs) := by
  obtain ⟨f, fd, ps, Fo, hm, hk, hb⟩ := G.ex
  refine pe_imp (pe_callS Fo hr hg hm hk hb (fun σ => passAt tk σ) ha hdb he hpl) fun σ H Q ⟨F, ρ, F0, H0, st, q⟩ => ?_
  unfold callP at q
  cases e1 : fs ρ with
  | ex c ns ds => rw [e1] at q; exact q.elim
  | no => rw [e1] at q; exact q.elim
  | ok ds =>
    rw [e1, R.bind_ok] at q
    -- both kinds of slots alike
    have key : ∀ (d0 : D) (is : List Int) (mk : List Int → D), ρ[j]? = some (.ow d0) → (∀ F H p, OwnAt X.K X.mg F H p d0 → H p = some (.lst (is.map V.int))) → (∀ F H p F' H' is', OwnAt X.K X.mg F H p d0 → H' p = some (.lst (is'.map V.int)) → OwnAt X.K X.mg F' H' p (mk is')) →
        (match (mir ds is).bind fun r => R.ok (r.1, ρ.set j (.ow (mk r.2))) with | .ok (d, ρ') => ∀ v F' H', Step F H F' H' → Stt X.K X.mg F0 H0 F' H' ρ' σ → Rep X.K X.mg F' d v → Q v H' | _ => False) →
        tCallS (SpP X.K X.mg np mir) (fun σ cls d H => W cls d σ H) (tAP X.K X.mg fs j) σ H Q := fun d0 is mk h0 h1 h2 q => by
      obtain ⟨p, hp, np0, o⟩ := st.good.ow j d0 h0
      refine ⟨F, ρ, p, st.good, hp, ?_⟩
      rw [e1]
      intro ws F1 H1 x1 r1
      have st1 := st.grow x1
      obtain ⟨p', hp', np1, o1⟩ := st1.good.ow j d0 h0
      rw [hp] at hp'; cases hp'
      refine ⟨F1, ds, ws, p, is, rfl, x1.sub, np1, h1 _ _ _ o1, r1, hlen ρ ds e1, ?_⟩
      cases e2 : mir ds is with
      | ex c ns es => rw [e2] at q; exact q.elim
      | no => rw [e2] at q; exact q.elim
      | ok z =>
        obtain ⟨d, is'⟩ := z
        rw [e2] at q
        exact fun v F' H' x r np' hp' => q v F' H' ((x1.step st.good.sub).trans (Ext.stepE x1.sub np1 x)) (st1.wrote h0 hp x np' (h2 _ _ _ _ _ _ o1 hp')) r
    cases e0 : ρ[j]? with
    | none => rw [e0] at q; exact q.elim
    | some sl =>
      rw [e0] at q
      cases sl with
      | un => exact q.elim
      | fz _ => exact q.elim
      | io _ _ _ => exact q.elim
      | ow d0 =>
        cases d0 with
        | lst es0 =>
          have q : match (match asInts es0 with | some is => (mir ds is).bind fun r => R.ok (r.1, ρ.set j (.ow (.lst (r.2.map .int)))) | none => .no) with | .ok (d, ρ') => ∀ v F' H', Step F H F' H' → Stt X.K X.mg F0 H0 F' H' ρ' σ → Rep X.K X.mg F' d v → Q v H' | _ => False := q
          cases ei : asInts es0 with
          | none => rw [ei] at q; exact q.elim
          | some is =>
            rw [ei] at q
            have ee := asInts_eq ei
            refine key (.lst es0) is (fun is' => .lst (is'.map .int)) e0 (fun F H p o => ?_) (fun F H p F' H' is' _ h => ⟨_, h, reps_ints is'⟩) q
            obtain ⟨vs, h1, h2⟩ := o
            rw [ee] at h2
            rw [reps_ints_of h2] at h1
            exact h1
        | cel p is => exact key (.cel p is) is (fun is' => .cel p is') e0 (fun F H p o => o.2) (fun F H p F' H' is' o h => ⟨o.1, h⟩) q
        | _ => exact q.elim
theorem ms_setX (i : Nat) {x : Str} {pos' : Pos} (hN : X.N.Nodup) (he : MX X e f) (hi : X.N[i]? = some x := by rfl) (hx : Loc X.env.scope x := by first | exact .inl rfl | exact .inr rfl) (hs : swapsWith e (some (.Name x pos')) pos.line X.env = pure false := by rfl) (hf : X.fn x = true ∨ X.env.scope.names.lookup x = some .local := by first | exact .inl rfl | exact .inr rfl | assumption) :
    MS X W (.Assign [.Name x pos'] e pos) (sSetX i f) := by
  refine ps_imp (ps_set hN hi hx he hs hf) fun D σ H ⟨n, F, ρ, F0, H0, st, q⟩ => ?_
  unfold sSetX at q
  cases e1 : f ρ with
  | ex c ns ds => rw [e1] at q; exact q.elim
  | no => rw [e1] at q; exact q.elim
  | ok z =>
    obtain ⟨d, ρ'⟩ := z
    rw [e1] at q
    exact tX_then st e1 fun v F' H' s' st' r => q _ F' H' s' (st'.setFz i r)
theorem ms_retP (i : Nat) (he : ME X W e m) : MS X W (.Return (some e) pos) (sRetP i m) := by
  refine ps_imp (ps_ret he) fun D σ H ⟨n, F, ρ, F0, H0, st, q⟩ => ?_
  unfold sRetP toV at q
  refine ⟨F, ρ, st.good, ?_⟩
  cases e1 : m ρ with
  | ex c ns ds => rw [e1] at q; exact fun cl dx F' H' x r => q cl dx σ F' H' (x.step st.good.sub) (st.grow x) r
  | no => rw [e1] at q; exact q.elim
  | ok s =>
    rw [e1, R.bind_ok] at q
    intro v F1 H1 x1 r1
    obtain ⟨d, F2, e2, x2, r2⟩ := freeze_res x1 r1
    rw [e2] at q
    have q : SPost X.K X.mg W F0 H0 F H D (match ρ[i]? with | some (.ow (.cel p is)) => .rt (.io d p is) | _ => .no) := q
    cases e0 : ρ[i]? with
    | none => rw [e0] at q; exact q.elim
    | some sl =>
      rw [e0] at q
      cases sl with
      | un => exact q.elim
      | fz _ => exact q.elim
      | io _ _ _ => exact q.elim
      | ow d0 =>
        cases d0 with
        | cel p is =>
          have st2 := st.grow x2
          obtain ⟨p', hp, n1, rfl, o⟩ := st2.good.ow i _ e0
          exact q v F2 H1 (x2.step st.good.sub) st2.ext ⟨r2, n1, o⟩
        | _ => exact q.elim
end
end Mp

namespace Mp
open PySem PySem.Spec PyProof.Rows L2

/-! ### displays of dicts whose keys are tuples -/
theorem kt_all {H : Hp} {more : List (List Key × V)} {rs : List (List Key × Addr × Value)} (r : KT H more rs) : ∀ {kvs : List (List Key × V)} {xs : List (List Key × Addr × Value)}, KT H kvs xs → KT H (more.foldl (fun acc kv => putK acc kv.1 kv.2) kvs) (storedAllH xs rs) := by
  induction r with
  | nil => exact fun q => q
  | @cons p q ps qs h t ih =>
    intro kvs xs r0
    obtain ⟨h1, h2, h3⟩ := h
    have e := r0.put p.1 h2 h3
    show KT H (ps.foldl (fun acc kv => putK acc kv.1 kv.2) (putK kvs p.1 p.2)) (storedAllH (storedH xs q.1 q.2.1 q.2.2) qs)
    rw [← h1]
    exact ih e
theorem carries_tup {P : Program} {w : World} {H : Hp} {h : Heap} (ok : HOk P w H h) : ∀ {zs : List (List Key × Addr × V)} {ws : List (Value × Value)}, VV (zs.map fun z => (V.ref z.2.1, z.2.2)) ws → (∀ z ∈ zs, H z.2.1 = some (.tup (z.1.map kV))) →
    ∃ rs, CarriesH (tupleKind (mixKind P w)) h ws rs ∧ KT H (zs.map fun z => (z.1, z.2.2)) rs
  | [], ws, r, _ => by
    rw [List.map_nil] at r
    cases r
    exact ⟨[], True.intro, .nil⟩
  | z :: zs, ws, r, ht => by
    rw [List.map_cons] at r
    cases r with
    | @cons a b as bs h t =>
      obtain ⟨rs, c, q⟩ := carries_tup ok t fun y hy => ht y (List.mem_cons_of_mem _ hy)
      obtain ⟨b1, b2⟩ := b
      obtain ⟨h1, h2⟩ := h
      have e : b1 = Value.ref z.2.1 := h1
      have hz := ht z List.mem_cons_self
      exact ⟨(z.1, z.2.1, b2) :: rs, ⟨e, rfl, key_of ok hz, c⟩, .cons ⟨rfl, hz, h2⟩ q⟩
def tDispT (trs : List (TE × TE)) : TE := fun σ H Q => ∀ p, H p = none → tPairs trs σ (upd H p (.dT [])) fun ps H2 => H2 p = some (.dT []) ∧ ∃ zs : List (List Key × Addr × V), ps = zs.map (fun z => (V.ref z.2.1, z.2.2)) ∧ (∀ z ∈ zs, H2 z.2.1 = some (.tup (z.1.map kV))) ∧ zs.length ≤ 15 ∧
  Q (.ref p) (upd H2 p (.dT ((zs.map fun z => (z.1, z.2.2)).foldl (fun acc kv => putK acc kv.1 kv.2) [])))
theorem len_putAll : ∀ (more kvs : List (List Key × V)), (more.foldl (fun acc kv => putK acc kv.1 kv.2) kvs).length ≤ kvs.length + more.length
  | [], kvs => Nat.le_refl _
  | p :: r, kvs => by
    have h1 := len_putAll r (putK kvs p.1 p.2)
    have h2 := length_putK kvs p.1 p.2
    show ((p :: r).foldl (fun acc kv => putK acc kv.1 kv.2) kvs).length ≤ _
    rw [List.foldl_cons, List.length_cons]
    omega
theorem pe_dispT {X : Cx} {pos : Pos} {keys : List (Option Expr)} {values : List Expr} {trs : List (TE × TE)} (hu : X.A.units + 1 < cLine) (h : PPs X pos keys values trs) (hall : keys.all (·.isSome) = true) (hl : keys.length = values.length) (h0 : keys ≠ [])
    (h15 : keys.length ≤ 15) : PE X (.Dict keys values pos) (tDispT trs) := by
  refine ⟨fun pins s σ H Q I q => ?_⟩
  have hn := I.hok.fresh (Nat.le_refl s.heap.objs.size)
  have I1 := I.laid (a := s.heap.objs.size) (o := .dT []) (h' := s.heap.push { cls := .type "dict", data := .dict #[] }) (t' := s.toks) (fun _ _ q => Heap.get?_push_of_some _ q) (Nat.le_refl _) (dt_empty s.heap I.big)
  have hn2 := pairTrees_length keys values X.env pos hall hl
  have hne : pairTrees keys values X.env pos ≠ [] := fun e => by
    rw [e] at hn2
    exact h0 (List.length_eq_zero_iff.mp hn2.symm)
  rw [arm_eval_Dict, zip_pairTrees keys values X.env pos hall hl, dictDisplay_pairs _ hne (by omega)]
  refine wpAny_bind (wpAny_standAt (wpAny_bind (wpAny_subDictH (knd := tupleKind (mixKind X.prog X.w)) (show (tupleKind (mixKind X.prog X.w)).room X.A from (by omega : X.A.units < cLine)) (by omega) (thn (h.run pins _ σ _ _ I1 (q _ hn)) fun ws s2 hq => ?_))))
  obtain ⟨ps, H2, I2, rel, e, zs, ep, ht, lk, q2⟩ := hq
  subst ep
  obtain ⟨rs, c, kt⟩ := carries_tup I2.hok rel ht
  obtain ⟨z, hd, xs0, r0, dd⟩ := dt_of I2.hok e
  cases r0
  refine ⟨rs, c, dd, fun h' tk dd' hs => wpAny_pure ⟨.ref s.heap.objs.size, _, ?_, rfl, q2⟩⟩
  have hz : ((zs.map fun z => (z.1, z.2.2)).foldl (fun acc kv => putK acc kv.1 kv.2) ([] : List (List Key × V))).length ≤ sizeLine := by
    have h1 := len_putAll (zs.map fun z => (z.1, z.2.2)) []
    rw [List.length_nil, List.length_map] at h1
    rw [sizeLine_eq]; omega
  obtain ⟨o, es, ep, ho, h2, h3, h4, _, h5⟩ := dd'
  refine d_write (t' := tk) I2 (by rw [e]; exact True.intro) hs ⟨o, ho⟩ ⟨hz, hd, _, (kt_all kt .nil).keeps fun b ys eb => ?_, o, es, ep, ho, h2, h3, h4, h5⟩
  rw [upd_ne fun z => by rw [z, e] at eb; cases eb]
  exact eb

/-- the pairs -/
def QPostT (K : PySem.W.Frag) (mg : Str → Option Value) (W : WX) (F H : Hp) (σ : SS) (Q : List (V × V) → Hp → Prop) : R (List (List Key × D)) → Prop
  | .ok zs => ∀ (ws : List (List Key × Addr × V)) F' H', Ext F H F' H' → PZ K mg F' (ws.map fun z => (z.1, z.2.2)) zs → (∀ z ∈ ws, F' z.2.1 = some (.tup (z.1.map kV))) → Q (ws.map fun z => (V.ref z.2.1, z.2.2)) H'
  | .ex c ns ds => XPost K mg W F H σ c ns ds
  | .no => False
theorem QPostT.ext {K : PySem.W.Frag} {mg : Str → Option Value} {W : WX} {F H F' H' : Hp} {σ : SS} {Q : List (V × V) → Hp → Prop} (x : Ext F H F' H') : ∀ {r : R (List (List Key × D))}, QPostT K mg W F H σ Q r → QPostT K mg W F' H' σ Q r
  | .ok zs, h => fun ws F2 H2 x2 => h ws F2 H2 (x.trans x2)
  | .ex c ns ds, h => XPost.ext x h
  | .no, h => h
def tQT (K : PySem.W.Frag) (mg : Str → Option Value) (W : WX) (fs : Rho → R (List (List Key × D))) (σ : SS) (H : Hp) (Q : List (V × V) → Hp → Prop) : Prop := ∃ F ρ, GoodM K mg F H ρ σ ∧ QPostT K mg W F H σ Q (fs ρ)
def MPT (X : Cx) (W : WX) (pos : Pos) (ks : List (Option Expr)) (vs : List Expr) (fs : Rho → R (List (List Key × D))) : Prop := ∃ trs, PPs X pos ks vs trs ∧ ∀ σ H Q, tQT X.K X.mg W fs σ H Q → tPairs trs σ H Q
def keyT : D → Option (List Key)
  | .tup ds => asKl ds
  | _ => none
@[simp] def nilT : Rho → R (List (List Key × D)) := fun _ => .ok []
@[simp] def consT (fk m : Rho → R Sl) (fs : Rho → R (List (List Key × D))) : Rho → R (List (List Key × D)) := fun ρ => (toV fk ρ).bind fun kd => match keyT kd with
  | some k => (toV m ρ).bind fun d => (fs ρ).bind fun r => .ok ((k, d) :: r)
  | none => .no
@[simp] def dspT (fs : Rho → R (List (List Key × D))) : Rho → R Sl := fun ρ => (fs ρ).bind fun zs => if zs.length ≤ 15 then .ok (.ow (dTv (mergeG [] zs))) else .no
section
variable {X : Cx} {W : WX} {pos : Pos} {k v : Expr} {fk m : Rho → R Sl}
theorem mpt_nil : MPT X W pos [] [] nilT := ⟨[], pps_nil, fun σ H Q ⟨F, ρ, gd, q⟩ => q [] F H (.refl gd.sub) rfl fun z hz => nomatch hz⟩
theorem mpt_cons {ks : List (Option Expr)} {vs : List Expr} {fs : Rho → R (List (List Key × D))} (hk : ME X W k fk) (hv : ME X W v m) (hr : MPT X W pos ks vs fs) : MPT X W pos (some k :: ks) (v :: vs) (consT fk m fs) := by
  obtain ⟨trs, h1, h2⟩ := hr
  refine ⟨_, pps_cons hk hv h1, fun σ H Q ⟨F, ρ, gd, q⟩ => ?_⟩
  unfold consT toV at q
  show tM X.K X.mg W fk σ H _
  refine ⟨F, ρ, gd, ?_⟩
  cases e1 : fk ρ with
  | ex c ns ds => rw [e1] at q; exact q
  | no => rw [e1] at q; exact q
  | ok sk =>
    rw [e1, R.bind_ok] at q
    intro x F0 H1 x0 r0
    obtain ⟨kd, F1, e0, x1, r1⟩ := freeze_res x0 r0
    rw [e0, R.bind_ok] at q
    cases e2 : keyT kd with
    | none => rw [e2] at q; exact q.elim
    | some kk =>
      rw [e2] at q
      have hkey : ∃ b, x = .ref b ∧ F1 b = some (.tup (kk.map kV)) := by
        cases kd with
        | tup ds =>
          obtain ⟨b, us, rfl, hb, ru⟩ := rep_tup.mp r1
          have hb : F1 b = some (.tup us) := hb
          rw [asKl_reps ru (show asKl ds = some kk from e2)] at hb
          exact ⟨b, rfl, hb⟩
        | _ => cases e2
      obtain ⟨b, rfl, hb⟩ := hkey
      have q1 : QPostT X.K X.mg W F1 H1 σ Q (((m ρ).bind slD).bind fun d => (fs ρ).bind fun r => .ok ((kk, d) :: r)) := QPostT.ext x1 q
      show tM X.K X.mg W m σ H1 _
      refine ⟨F1, ρ, gd.ext x1, ?_⟩
      cases e3 : m ρ with
      | ex c ns ds => rw [e3] at q1; exact q1
      | no => rw [e3] at q1; exact q1
      | ok s =>
        rw [e3, R.bind_ok] at q1
        intro y F2 H2 x2 r2
        obtain ⟨d, F3, e4, x3, r3⟩ := freeze_res x2 r2
        rw [e4, R.bind_ok] at q1
        have q2 : QPostT X.K X.mg W F3 H2 σ Q ((fs ρ).bind fun r => .ok ((kk, d) :: r)) := QPostT.ext x3 q1
        refine h2 σ H2 _ ⟨F3, ρ, (gd.ext x1).ext x3, ?_⟩
        cases e5 : fs ρ with
        | ex c ns ds => rw [e5] at q2; exact q2
        | no => rw [e5] at q2; exact q2
        | ok zs =>
          rw [e5, R.bind_ok] at q2
          refine fun ws F4 H4 x4 r4 t4 => q2 ((kk, b, y) :: ws) F4 H4 x4 ⟨_, _, rfl, rfl, r3.mono x4.frz, r4⟩ fun z hz => ?_
          rcases List.mem_cons.mp hz with rfl | hz
          · exact x4.frz _ _ (x3.frz _ _ hb)
          · exact t4 z hz
theorem PZ.mergeT {K : PySem.W.Frag} {mg : Str → Option Value} {F : Hp} : ∀ {ms : List (List Key × V)} {ns : List (List Key × D)} {ws : List (List Key × V)} {zs : List (List Key × D)}, PZ K mg F ms ns → PZ K mg F ws zs → PZ K mg F (ms.foldl (fun acc kv => putK acc kv.1 kv.2) ws) (mergeG zs ns)
  | [], ns, ws, zs, e, h => by
    have e : ns = [] := e
    subst e
    exact h
  | m :: ms, ns, ws, zs, e, h => by
    obtain ⟨z, r, e, e1, e2, e3⟩ := e
    subst e
    have h2 : PZ K mg F (putK ws m.1 m.2) (putG zs z.1 z.2) := by rw [e1]; exact h.put e2
    exact PZ.mergeT (ms := ms) (ns := r) (ws := putK ws m.1 m.2) (zs := putG zs z.1 z.2) e3 h2
theorem me_dispT {ks : List (Option Expr)} {vs : List Expr} {fs : Rho → R (List (List Key × D))} (hu : X.A.units + 180 < cLine) (h : MPT X W pos ks vs fs) (hall : ks.all (·.isSome) = true := by rfl) (hl : ks.length = vs.length := by rfl) (h0 : ks ≠ [] := by exact fun z => nomatch z) (h15 : ks.length ≤ 15 := by decide) :
    ME X W (.Dict ks vs pos) (dspT fs) := by
  obtain ⟨trs, h1, h2⟩ := h
  refine pe_imp (pe_dispT (by omega) h1 hall hl h0 h15) fun σ H Q ⟨F, ρ, gd, q⟩ => fun p n => ?_
  have x0 : Ext F H F (upd H p (.dT [])) := ext_new gd.sub n fun _ z => nomatch z
  refine h2 σ _ _ ⟨F, ρ, gd.ext x0, ?_⟩
  unfold dspT at q
  cases e1 : fs ρ with
  | ex c ns ds => rw [e1] at q; exact XPost.ext x0 q
  | no => rw [e1] at q; exact q
  | ok zs =>
    rw [e1, R.bind_ok] at q
    intro ws F' H' x r t
    by_cases hz : zs.length ≤ 15
    · rw [if_pos hz] at q
      obtain ⟨nF, x2⟩ := ext_new2 (u' := .dT ((ws.map fun z => (z.1, z.2.2)).foldl (fun acc kv => putK acc kv.1 kv.2) [])) gd.sub n x fun _ z => nomatch z
      have hl := r.length
      rw [List.length_map] at hl
      exact ⟨x.keep _ _ upd_same, ws, rfl, fun z hz => x.sub.rdT _ _ (t z hz), by rw [hl]; exact hz, q _ F' _ x2 ⟨p, rfl, n, nF, own_dtv upd_same (PZ.mergeT r rfl)⟩⟩
    · rw [if_neg hz] at q; exact q.elim
end
end Mp

namespace Mp
open PySem PySem.Spec PyProof.Rows L2

/-! ### range(n), n beyond a machine's word -/
theorem turn_long {P : Program} {w : World} {K : PySem.W.Frag} {tg : Expr} (z : Addr) (lo : Int) (n : Nat) : Turn P w K tg (Itr lo n) [z] z (fun i h => IsLongIter h z (lo + (i : Nat) * 1) ((n : Int) - (i : Nat)) 1) where
  mem := by simp
  obj := fun i h ok b hb => by
    cases List.mem_singleton.mp hb
    exact ⟨_, ok, fun v y => by
      have y2 : Data.fields _ = Data.cell v := y
      cases y2⟩
  keep := fun i h h2 ok k => k z (by simp) _ ok
  item := by
    intro Y e1 e2 e3 calm i pn s τ H E I fr ok go
    subst e1 e2 e3
    obtain ⟨f0, f1, f2, f3, f4, f5⟩ := fr z (by simp)
    refine (Walks.longrange (prog := Y.prog) (w := Y.w) (I.ok.hd calm) z lo 1 n).item i s _ _ go ok fun v h2 tk hv ok2 kk => ?_
    obtain ⟨t, rfl⟩ := hv
    have J : Inv Y pn τ H { s with heap := h2, toks := tk } := I.turned (fun b o hb e => kk b o (by simpa using hb) e) f0 f1 f3 f4 f5
    refine ⟨_, rfl, go_of (s := { s with heap := h2, toks := tk }) (n := "longrange_iterator") ok2 rfl rfl (by decide) ⟨.int (lo + i), H, J, ⟨t, by rw [Int.mul_one]⟩, ⟨rfl, rfl⟩, ok2, fun b hb => (fr b hb).1⟩⟩
  done := by
    intro Y e1 e2 e3 calm i pn s τ H E I fr ok go
    subst e1 e2 e3
    obtain ⟨f0, f1, f2, f3, f4, f5⟩ := fr z (by simp)
    exact wpAny_pyNext_long_end (I.ok.hd calm) ok (by have : n ≤ i := go; omega) fun h2 eb => ⟨rfl, I.turned (t' := s.toks) (fun b o hb e => eb b o hb e) f0 f1 f3 f4 f5⟩
  self := fun _ _ _ _ _ ok h => wpAny_pyIter_longiter ok h
def iRngB (ta : TA) : TI := fun σ H R => ta σ H fun vs H1 => ∃ j : Int, vs = [.int j] ∧ ((-(2 ^ 62) ≤ j ∧ j < 2 ^ 62) ∨ 2 ^ 63 ≤ j) ∧ R (Itr 0 j.toNat) H1
theorem small_big {j : Int} (h : 2 ^ 63 ≤ j) : Builtin.Range.small 0 j 1 = false := by
  unfold Builtin.Range.small
  have e : Builtin.Range.rangeFitsLong j = false := by
    unfold Builtin.Range.rangeFitsLong
    rw [decide_eq_false (p := j < 2 ^ 63) (by omega), Bool.and_false]
  rw [e]
  simp
theorem pi_rangeB {X : Cx} {tg a : Expr} {ta : TA} {p pos : Pos} (hg : Gl X "range") (hm : X.mg "range" = none) (ha : PA X [a] ta) (hs : starEach [a] X.env = [(false, eval a X.env)] := by rfl) : PI X tg (.Call (.Name "range" p) [a] [] pos) (iRngB ta) := by
  refine ⟨fun pn s τ H R I h => ?_⟩
  refine Call_ (ld_blt I hg hm boot_range (PyProof.Rows.callWith_type1 (thn (ha.run pos pn s τ H _ I h) fun us s1 ⟨vs, H1, I1, r1, ⟨j, ej, hj, q⟩⟩ => ?_) hs rfl))
  subst ej
  obtain ⟨u, rfl, ru⟩ := vals1 r1
  obtain ⟨t, rfl⟩ := (show ∃ t, u = Value.int j t from ru)
  rcases hj with ⟨h1, h2⟩ | hb
  · exact call_range_1 (range_it I1 (by omega) (by omega) h1 h2 (by simpa using q))
  · refine call_range_1 (wpAny_pyIter_longrange (IsRange.new ..) (small_big hb) ?_)
    have J : ∀ (o : Obj) (tk : Tok), Inv X pn τ H1 { s1 with heap := s1.heap.push o, toks := tk } := fun o tk => I1.kept fun b ob e => Heap.get?_push_of_some _ e
    refine pi_one (tk := _) (J _ _) _ (turn_long _ 0 j.toNat) ?_ q
    show IsLongIter _ _ ((0 : Int) + ((0 : Nat) : Int) * 1) ((j.toNat : Int) - ((0 : Nat) : Int)) 1
    have e1 : (0 : Int) + ((0 : Nat) : Int) * 1 = 0 := by simp
    have e2 : (j.toNat : Int) - ((0 : Nat) : Int) = Builtin.Range.rangeSize 0 j 1 := by rw [rangeSize_one]; split <;> omega
    rw [e1, e2]
    exact Heap.get?_push_size _ rfl
noncomputable def rngOkB (j : Int) : Bool := guardB ((-(2 ^ 62) ≤ j ∧ j < 2 ^ 62) ∨ 2 ^ 63 ≤ j)
@[simp] noncomputable def rngB (fs : Rho → R (List D)) : Rho → R (List D) := fun ρ => (fs ρ).bind fun
  | [.int j] => if rngOkB j then .ok (rngL 0 j) else .no
  | _ => .no
section
variable {X : Cx} {W : WX} {e tg : Expr} {fs : Rho → R (List D)} {p pos : Pos}
theorem mi_rangeB (hm : X.mg "range" = none) (ha : ML X W [e] fs) (hg : Gl X "range" := by rfl) (hs : starEach [e] X.env = [(false, eval e X.env)] := by rfl) : MI X W tg (.Call (.Name "range" p) [e] [] pos) (rngB fs) := by
  refine pi_imp (pi_rangeB hg hm ha hs) fun σ H Q t => ?_
  obtain ⟨F, ρ, g, q⟩ := tI_of t
  refine tL_then (P := fun F H => IPost X.K X.mg W F H σ Q) g q (fun _ _ _ z => z) (fun z => z) (fun F' H' r x z => z.ext x) fun d v F' H' _ x g' r z => ?_
  split at z
  · rename_i j hfs
    cases hb : rngOkB j with
    | false => rw [hb] at z; exact z.elim
    | true =>
      rw [hb] at z
      have hb := guardB_iff.mp hb
      have ev : v = [V.int j] := helds_ints (is := [j]) r
      subst ev
      refine ⟨j, rfl, hb, z _ F' H' (.refl g'.sub) ?_⟩
      unfold rngL
      rw [Int.sub_zero]
      exact gives_range
  · exact z.elim
end
end Mp

namespace Mp
open PySem PySem.Spec PyProof.Rows L2

/-! ### a op b op c; x.bit_length(); tuple(xs) -/
@[simp] def chainT (g g' : D → D → R D) (f1 f2 f3 : Rho → R D) : Rho → R Bool := fun ρ => (f1 ρ).bind fun a => (f2 ρ).bind fun b => (g a b).bind fun z => (asB z).bind fun k => if k then (f3 ρ).bind fun c => (g' b c).bind asB else .ok false
section
variable {X : Cx} {W : WX} {a b c e : Expr} {f1 f2 f3 f : Rho → R D} {fs : Rho → R (List D)} {p pos apos : Pos}
theorem mt_chain {op op' : CmpOp} {r r' : R2} {g g' : D → D → R D} (ho : OpR X (compareOp op) r) (ho' : OpR X (compareOp op') r') (hs : Sim2 X r g) (hs' : Sim2 X r' g') (hn : ∀ a b, NoEx (g a b)) (hn' : ∀ a b, NoEx (g' a b)) (ha : MV X W a f1) (hb : MV X W b f2) (hc : MV X W c f3)
    (hm : lastMarks [op, op'] [b, c] = false := by with_unfolding_all rfl) : MT X W (.Compare a [op, op'] [b, c] pos) (chainT g g' f1 f2 f3) := by
  refine pt_imp (pt_chain ho ho' ha hb hc hm) fun σ H Q ⟨F, ρ, gd, q⟩ => ?_
  refine two_looks (P := fun F H => TPost X.K X.mg W F H σ Q) gd q (fun _ _ _ _ _ z => z) (fun _ _ z => z) (fun _ _ _ _ _ x z => z.ext x) fun d1 d2 v1 v2 F' H' x g1 r1 r2 z => ?_
  cases e1 : g d1 d2 with
  | ex c ns ds => exact (hn d1 d2 c ns ds e1).elim
  | no => rw [e1] at z; exact z.elim
  | ok d =>
    rw [e1, R.bind_ok] at z
    refine hs F' H' d1 d2 v1 v2 d _ g1.sub r1 r2 e1 fun v hv => ?_
    cases e2 : asB d with
    | ex c ns ds => exact (asB_ex e2).elim
    | no => rw [e2] at z; exact z.elim
    | ok k =>
      rw [e2, R.bind_ok] at z
      have hd := asB_ok e2
      subst hd
      refine ⟨k, held_bl.mp hv, ?_⟩
      cases k with
      | false => exact ⟨false, rfl, z F' H' (.refl g1.sub)⟩
      | true =>
        rw [if_pos rfl] at z ⊢
        refine tV_then (P := fun F H => TPost X.K X.mg W F H σ Q) g1 z (fun _ _ _ z => z) (fun z => z) (fun F' H' r x z => z.ext x) fun d3 v3 F2 H2 _ x2 g2 r3 z2 => ?_
        cases e3 : g' d2 d3 with
        | ex c ns ds => exact (hn' d2 d3 c ns ds e3).elim
        | no => rw [e3] at z2; exact z2.elim
        | ok d4 =>
          rw [e3, R.bind_ok] at z2
          refine hs' F2 H2 d2 d3 v2 v3 d4 _ g2.sub (r2.ext x2) r3 e3 fun v hv => ?_
          cases e4 : asB d4 with
          | ex c ns ds => exact (asB_ex e4).elim
          | no => rw [e4] at z2; exact z2.elim
          | ok k4 =>
            rw [e4] at z2
            have hd := asB_ok e4
            subst hd
            exact ⟨k4, held_bl.mp hv, z2 F2 H2 (.refl g2.sub)⟩
theorem mt_leLt (ha : MV X W a f1) (hb' : MV X W b f2) (hc : MV X W c f3) (hm : lastMarks [.LtE, .Lt] [b, c] = false := by with_unfolding_all rfl) : MT X W (.Compare a [.LtE, .Lt] [b, c] pos) (chainT leD ltD f1 f2 f3) := mt_chain op_le op_lt (sim_i0 (hb _)) (sim_i0 (hb _)) iiD_nx iiD_nx ha hb' hc hm
@[simp] def bitsD : D → R D
  | .int i => .ok (.int (Builtin.Int.intBits i : Nat))
  | _ => .no
theorem mv_bits (he : MV X W e f) (hbase : attributeBase e "bit_length" X.env (eval e X.env) = eval e X.env := by rfl) (hline : (apos.endLine == pos.line) = true := by rfl) : MV X W (.Call (.Attribute e "bit_length" apos) [] [] pos) (op1 bitsD f) := by
  refine pe_imp (pe_bits he hbase hline) fun σ H Q ⟨F, ρ, gd, q⟩ => ?_
  refine tV_then (P := fun F H => BPost X.K X.mg W F H σ Q) gd q (fun _ _ _ z => z) (fun z => z) (fun F' H' r x z => z.ext x) fun d v F' H' _ x g' r z => ?_
  cases d with
  | int i => exact ⟨i, held_int.mp r, z _ F' H' (.refl g'.sub) (held_int.mpr rfl)⟩
  | _ => exact z.elim
@[simp] def tupleD : List D → R Sl
  | [.lst ds] => .ok (.fz (.tup ds))
  | _ => .no
theorem tupleD_nx (ds : List D) : NoEx (tupleD ds) := fun c ns es h => by unfold tupleD at h; split at h <;> cases h
theorem sim_tuple : SimCS X (fun xs H Q => ∃ p ys, xs = [V.ref p] ∧ ((SqL X.K H p ys ∧ ∀ l, H l = none → Q (.ref l) (upd H l (.tup ys))) ∨ (SqT X.K H p ys ∧ Q (.ref p) H))) tupleD := fun F H ds vs s Q sb hs e q => by
  unfold tupleD at e
  split at e
  · cases e
    obtain ⟨v, rfl, h⟩ := helds_one hs
    obtain ⟨a, ws, rfl, h1, h2⟩ := h.lst sb
    exact ⟨a, ws, rfl, .inl ⟨h1, fun l n => q _ _ _ (ext_tup sb n) (tup_rep sb n h2)⟩⟩
  · cases e
theorem me_tuplec (hm : X.mg "tuple" = none) (ha : ML X W [e] fs) (hg : Gl X "tuple" := by rfl) (he : starEach [e] X.env = (false, eval e X.env) :: starEach [] X.env := by rfl) : ME X W (.Call (.Name "tuple" p) [e] [] pos) (opLS tupleD fs) :=
  me_callTy call_tuple_of sim_tuple tupleD_nx hm (by decide +kernel) ha hg (by decide) (by decide) he rfl
end
end Mp

namespace Mp
open PySem PySem.Spec PyProof.Rows L2

/-! ### the meanings, for simp -/
section
variable {i j : Int} {ρ : Rho}
theorem log2_lt {n k : Nat} (h0 : 0 < k) (h : n < 2 ^ k) : n.log2 < k := PySem.Flt.log2_lt_of h0 h
theorem intBits_le (i : Int) : Builtin.Int.intBits i ≤ i.natAbs.log2 + 1 := by
  unfold Builtin.Int.intBits
  split <;> omega
theorem intBits_lt {i : Int} {a : Nat} (hi : i.natAbs < 2 ^ a) (ha : 0 < a := by decide) : Builtin.Int.intBits i ≤ a := by
  have := intBits_le i
  have := log2_lt ha hi
  omega
theorem mulOk_bits (h : Builtin.Int.intBits i + Builtin.Int.intBits j ≤ 134217728) : mulOk i j = true := guardB_iff.mpr (by
  have e : bitsLine = 134217728 := by decide
  unfold IntMulOk
  intro z
  rw [Bool.and_eq_true] at z
  have z2 := z.2
  unfold Builtin.Int.intTooBig at z2
  have z3 := of_decide_eq_true z2
  rw [e] at z3
  omega)
theorem mulOk_of {a b : Nat} (hi : i.natAbs < 2 ^ a) (hj : j.natAbs < 2 ^ b) (ha : 0 < a := by decide) (hb : 0 < b := by decide) (h : a + b ≤ 134217728 := by decide) : mulOk i j = true := by
  have h1 := intBits_lt hi ha
  have h2 := intBits_lt hj hb
  exact mulOk_bits (by omega)
/-- one factor small: the other of any size -/
theorem mulOk_l (h1 : -18446744073709551616 < i) (h2 : i < 18446744073709551616) : mulOk i j = true := guardB_iff.mpr (IntMulOk.of_left (PySem.intBits_le_64 (by simpa using h1) (by simpa using h2)))
theorem mulOk_r (h1 : -18446744073709551616 < j) (h2 : j < 18446744073709551616) : mulOk i j = true := guardB_iff.mpr (IntMulOk.of_right (PySem.intBits_le_64 (by simpa using h1) (by simpa using h2)))
/-- two factors of at most some 60 figures -/
theorem mulOk_small (h1 : i.natAbs < 1000000000000000000000000000000000000000000000000000000000000) (h2 : j.natAbs < 1000000000000000000000000000000000000000000000000000000000000) : mulOk i j = true :=
  mulOk_of (a := 200) (b := 200) (Nat.lt_of_lt_of_le h1 (by decide)) (Nat.lt_of_lt_of_le h2 (by decide))
theorem natAbs_lt {i : Int} {n : Nat} (h1 : -(n : Int) < i) (h2 : i < n) : i.natAbs < n := by omega
theorem mulOk_lin (h1 : -1000000000000000000000000000000000000000000000000000000000000 < i) (h2 : i < 1000000000000000000000000000000000000000000000000000000000000) (h3 : -1000000000000000000000000000000000000000000000000000000000000 < j) (h4 : j < 1000000000000000000000000000000000000000000000000000000000000) : mulOk i j = true :=
  mulOk_small (natAbs_lt (n := 1000000000000000000000000000000000000000000000000000000000000) h1 h2) (natAbs_lt (n := 1000000000000000000000000000000000000000000000000000000000000) h3 h4)
theorem mul_lin {i j : Int} {a b : Nat} (h1 : -(a : Int) < i ∧ i < a) (h2 : -(b : Int) < j ∧ j < b) : -((a * b : Nat) : Int) < i * j ∧ i * j < ((a * b : Nat) : Int) := by
  have h : (i * j).natAbs < a * b := by
    rw [Int.natAbs_mul]
    exact Nat.mul_lt_mul'' (natAbs_lt h1.1 h1.2) (natAbs_lt h2.1 h2.2)
  omega
theorem divOk_small (h : 0 < j) (h2 : j < 1073741824) : divOk i j = true := guardB_iff.mpr ⟨h, PyProof.noPylong_small (by omega)⟩
theorem divOk_mid (h : 0 < j) (h2 : j.natAbs.log2 < 9000) : divOk i j = true := guardB_iff.mpr ⟨h, PyProof.noPylong_of_log2 h2⟩
theorem powOk_bits {k : Nat} (hb : Builtin.Int.intBits i ≤ k) (h1 : 0 ≤ j) (h : (k : Int) * j ≤ 134217728) : powOk i j = true := guardB_iff.mpr ⟨h1, by
  have e : (2 : Int) ^ 27 = 134217728 := by decide
  rw [e]
  have h2 : (Builtin.Int.intBits i : Int) * j ≤ (k : Int) * j := Int.mul_le_mul_of_nonneg_right (by omega) h1
  omega⟩
theorem powOk_small (h1 : 0 ≤ j) (h2 : j ≤ 1000000) (h3 : i.natAbs < 18446744073709551616) : powOk i j = true :=
  powOk_bits (k := 64) (intBits_lt (a := 64) (by simpa using h3)) h1 (by omega)
theorem rngOk_small (h1 : -4611686018427387904 ≤ i) (h2 : i < 4611686018427387904) : rngOk i = true := guardB_iff.mpr (by
  have e : (2 : Int) ^ 62 = 4611686018427387904 := by decide
  rw [e]
  exact ⟨h1, h2⟩)
end
/-! ### loops, by an invariant -/
theorem sLoop_inv {g : D → Rho → R Rho} {b : Sem} {n : Nat} (I : Nat → Rho → Prop) : ∀ (ds : List D) (k : Nat) (ρ : Rho), I k ρ →
    (∀ (j : Nat) (d : D) (ρ : Rho), ds[j]? = some d → I (k + j) ρ → ∃ ρ1 ρ2, g d ρ = .ok ρ1 ∧ oLoop (b n ρ1) .nx = .nx ρ2 ∧ (∀ t, oLoop (b n ρ1) t = t ρ2) ∧ I (k + j + 1) ρ2) → ∃ ρ', sLoop g b n ds ρ = .nx ρ' ∧ I (k + ds.length) ρ'
  | [], k, ρ, h, _ => ⟨ρ, rfl, h⟩
  | d :: ds, k, ρ, h, hs => by
    obtain ⟨ρ1, ρ2, e1, e2, e3, h2⟩ := hs 0 d ρ rfl h
    obtain ⟨ρ', e4, h4⟩ := sLoop_inv I ds (k + 1) ρ2 h2 fun j d' ρ hj hI => by
      have := hs (j + 1) d' ρ hj (by rw [show k + (j + 1) = k + 1 + j by omega]; exact hI)
      rw [show k + (j + 1) + 1 = k + 1 + j + 1 by omega] at this
      exact this
    refine ⟨ρ', ?_, by rw [List.length_cons, show k + (ds.length + 1) = k + 1 + ds.length by omega]; exact h4⟩
    show rOut ρ (g d ρ) _ = _
    rw [e1, rOut_ok, e3]
    exact e4
/-- .. where the body's end is plain -/
theorem sLoop_nx {g : D → Rho → R Rho} {b : Sem} {n : Nat} (I : Nat → Rho → Prop) (ds : List D) (ρ : Rho) (h0 : I 0 ρ)
    (hs : ∀ (j : Nat) (d : D) (ρ : Rho), ds[j]? = some d → I j ρ → ∃ ρ1 ρ2, g d ρ = .ok ρ1 ∧ b n ρ1 = .nx ρ2 ∧ I (j + 1) ρ2) : ∃ ρ', sLoop g b n ds ρ = .nx ρ' ∧ I ds.length ρ' := by
  obtain ⟨ρ', e, h⟩ := sLoop_inv (g := g) (b := b) (n := n) I ds 0 ρ h0 fun j d ρ hj hI => by
    rw [Nat.zero_add] at hI ⊢
    obtain ⟨ρ1, ρ2, e1, e2, h2⟩ := hs j d ρ hj hI
    exact ⟨ρ1, ρ2, e1, by rw [e2]; rfl, fun t => by rw [e2]; rfl, h2⟩
  rw [Nat.zero_add] at h
  exact ⟨ρ', e, h⟩
def NxP (o : Out) (P : Rho → Prop) : Prop := ∃ ρ, o = .nx ρ ∧ P ρ
def RP {α : Type} (r : R α) (P : α → Prop) : Prop := ∃ a, r = .ok a ∧ P a
def RtP (o : Out) (P : Sl → Prop) : Prop := ∃ s, o = .rt s ∧ P s
@[simp] theorem NxP_nx {ρ : Rho} {P : Rho → Prop} : NxP (.nx ρ) P ↔ P ρ := ⟨fun ⟨_, e, h⟩ => by cases e; exact h, fun h => ⟨ρ, rfl, h⟩⟩
@[simp] theorem RP_ok {α : Type} {a : α} {P : α → Prop} : RP (.ok a) P ↔ P a := ⟨fun ⟨_, e, h⟩ => by cases e; exact h, fun h => ⟨a, rfl, h⟩⟩
@[simp] theorem RtP_rt {s : Sl} {P : Sl → Prop} : RtP (.rt s) P ↔ P s := ⟨fun ⟨_, e, h⟩ => by cases e; exact h, fun h => ⟨s, rfl, h⟩⟩
theorem NxP.imp {o : Out} {P Q : Rho → Prop} (h : NxP o P) (i : ∀ ρ, P ρ → Q ρ) : NxP o Q := let ⟨ρ, e, p⟩ := h; ⟨ρ, e, i ρ p⟩
theorem NxP.seq {o : Out} {k : Rho → Out} {P Q : Rho → Prop} (h : NxP o P) (i : ∀ ρ, P ρ → NxP (k ρ) Q) : NxP (oSeq o k) Q := by
  obtain ⟨ρ, e, p⟩ := h; rw [e]; exact i ρ p
theorem NxP.ret {o : Out} {k : Rho → Out} {P : Rho → Prop} {Q : Sl → Prop} (h : NxP o P) (i : ∀ ρ, P ρ → RtP (k ρ) Q) : RtP (oSeq o k) Q := by
  obtain ⟨ρ, e, p⟩ := h; rw [e]; exact i ρ p
theorem sLoop_P {g : D → Rho → R Rho} {b : Sem} {n : Nat} (I : Nat → Rho → Prop) {ds : List D} {ρ : Rho} (h0 : I 0 ρ)
    (hs : ∀ (j : Nat) (d : D) (ρ : Rho), ds[j]? = some d → I j ρ → RP (g d ρ) fun ρ1 => NxP (b n ρ1) (I (j + 1))) : NxP (sLoop g b n ds ρ) (I ds.length) := by
  obtain ⟨ρ', e, h⟩ := sLoop_nx (g := g) (b := b) (n := n) I ds ρ h0 fun j d ρ hj hI => by
    obtain ⟨ρ1, e1, ρ2, e2, h2⟩ := hs j d ρ hj hI
    exact ⟨ρ1, ρ2, e1, e2, h2⟩
  exact ⟨ρ', e, h⟩
theorem sWhile_P {c : Rho → R Bool} {b : Sem} (I : Rho → Prop) (μ : Rho → Nat) {n : Nat} {ρ : Rho} (h0 : I ρ) (hn : μ ρ < n)
    (hs : ∀ ρ, I ρ → RP (c ρ) fun k => k = true → ∀ m, NxP (b m ρ) fun ρ2 => I ρ2 ∧ μ ρ2 < μ ρ) : NxP (sWhile c b n ρ) fun ρ => I ρ ∧ c ρ = .ok false := by
  induction n generalizing ρ with
  | zero => omega
  | succ n ih =>
    obtain ⟨k, e, h⟩ := hs ρ h0
    cases k with
    | false =>
      refine ⟨ρ, ?_, h0, e⟩
      show rOut ρ (c ρ) _ = _
      rw [e]; rfl
    | true =>
      obtain ⟨ρ2, e2, h2, hm⟩ := h rfl n
      obtain ⟨ρ', e3, h3⟩ := ih h2 (by omega)
      refine ⟨ρ', ?_, h3⟩
      show rOut ρ (c ρ) _ = _
      rw [e, rOut_ok, if_pos rfl, e2]
      exact e3
theorem sWhile_step {c : Rho → R Bool} {b : Sem} {n : Nat} {ρ ρ' : Rho} (hc : c ρ = .ok true) (hb : b n ρ = .nx ρ') : sWhile c b (n + 1) ρ = sWhile c b n ρ' := by
  show rOut ρ (c ρ) _ = _
  rw [hc, rOut_ok, if_pos rfl, hb]; rfl
theorem sWhile_stop {c : Rho → R Bool} {b : Sem} {n : Nat} {ρ : Rho} (hc : c ρ = .ok false) : sWhile c b (n + 1) ρ = .nx ρ := by
  show rOut ρ (c ρ) _ = _
  rw [hc]; rfl
/-- a range's items -/
theorem rngL_get {i j : Int} {k : Nat} {d : D} (h : (rngL i j)[k]? = some d) : d = .int (i + (k : Nat)) ∧ (k : Int) < j - i := by
  unfold rngL at h
  rw [List.getElem?_map] at h
  by_cases hk : k < (j - i).toNat
  · rw [List.getElem?_range hk] at h
    cases h
    exact ⟨rfl, by omega⟩
  · rw [List.getElem?_eq_none (by simpa using hk)] at h; cases h
theorem rngL_len {i j : Int} : (rngL i j).length = (j - i).toNat := by unfold rngL; simp
theorem ints_get {is : List Int} {k : Nat} {d : D} (h : (is.map D.int)[k]? = some d) : ∃ i, d = .int i ∧ is[k]? = some i := by
  rw [List.getElem?_map] at h
  cases e : is[k]? with
  | none => rw [e] at h; cases h
  | some i => rw [e] at h; cases h; exact ⟨i, rfl, rfl⟩
/-- while, by an invariant and a measure -/
theorem sWhile_inv {c : Rho → R Bool} {b : Sem} (I : Rho → Prop) (μ : Rho → Nat) (P : Rho → Prop) (hstop : ∀ ρ, I ρ → c ρ = .ok false → P ρ)
    (hs : ∀ ρ, I ρ → c ρ = .ok false ∨ (c ρ = .ok true ∧ ∀ n, ∃ ρ2, b n ρ = .nx ρ2 ∧ I ρ2 ∧ μ ρ2 < μ ρ)) : ∀ (n : Nat) (ρ : Rho), I ρ → μ ρ < n → ∃ ρ', sWhile c b n ρ = .nx ρ' ∧ I ρ' ∧ P ρ'
  | 0, ρ, _, h => by omega
  | n + 1, ρ, hI, h => by
    rcases hs ρ hI with e | ⟨e, hb⟩
    · refine ⟨ρ, ?_, hI, hstop ρ hI e⟩
      show rOut ρ (c ρ) _ = _
      rw [e]; rfl
    · obtain ⟨ρ2, e2, hI2, hm⟩ := hb n
      obtain ⟨ρ', e3, h3, h4⟩ := sWhile_inv I μ P hstop hs n ρ2 hI2 (by omega)
      refine ⟨ρ', ?_, h3, h4⟩
      show rOut ρ (c ρ) _ = _
      rw [e, rOut_ok, if_pos rfl, e2]
      exact e3
theorem cutG_take {α : Type} {xs : List α} {k : Int} (h : 0 ≤ k) : cutG xs none (some k) = xs.take k.toNat := by
  obtain ⟨n, rfl⟩ := Int.eq_ofNat_of_zero_le h
  unfold cutG
  rw [show HT.sIx xs.length xs.length (some (n : Int)) = min n xs.length from HT.sIx_nat _ _ _, HT.sIx_none, Nat.sub_zero, List.drop_zero]
  show xs.take (min n xs.length) = xs.take n
  rw [List.take_eq_take_iff]
  omega
theorem cutG_drop {α : Type} {xs : List α} {k : Int} (h : 0 ≤ k) : cutG xs (some k) none = xs.drop k.toNat := by
  obtain ⟨n, rfl⟩ := Int.eq_ofNat_of_zero_le h
  unfold cutG
  rw [show HT.sIx xs.length 0 (some (n : Int)) = min n xs.length from HT.sIx_nat _ _ _, HT.sIx_none]
  show (xs.drop (min n xs.length)).take (xs.length - min n xs.length) = xs.drop n
  by_cases hn : n ≤ xs.length
  · rw [Nat.min_eq_left hn, ← List.length_drop, List.take_length]
  · rw [Nat.min_eq_right (by omega), List.drop_length, List.drop_eq_nil_of_le (by omega)]
    simp
theorem iicD_int {c : Int → Int → Bool} {f : Int → Int → D} {i j : Int} (h : c i j = true) : iicD c f (.int i) (.int j) = .ok (f i j) := by
  simp [h]

/-! ### statement by statement -/
section
variable {i j : Nat} {f : Rho → R Sl} {t a b : Sem} {n : Nat} {ρ ρ' : Rho} {s : Sl} {c : Rho → R Bool} {g : D → Rho → R Rho} {it : Rho → R (List D)} {ds : List D} {d : D}
theorem seq_set (s : Sl) (h : f ρ = .ok s) : sSeq (sSet i f) t n ρ = t n (ρ.set i (frzL s)) := by simp [h]
theorem seq_own (s : Sl) (h : f ρ = .ok s) : sSeq (sOwn i f) t n ρ = t n (ρ.set i s) := by simp [h]
theorem seq_asg (d : D) (ρ' : Rho) (h : toV f ρ = .ok d) (hg : g d ρ = .ok ρ') : sSeq (sAsg f g) t n ρ = t n ρ' := by
  unfold sSeq sAsg
  rw [h, rOut_ok, hg, oSeq_nx]
theorem seq_par {fs : Rho → R (List D)} (d e : D) (h : fs ρ = .ok [d, e]) : sSeq (sPar i j fs) t n ρ = t n ((ρ.set i (.fz d)).set j (.fz e)) := by simp [h]
theorem seq_par2 {o u : Bool} {f' : Rho → R Sl} (s t' : Sl) (h : f ρ = .ok s) (h' : f' ρ = .ok t') : sSeq (sPar2 i j o u f f') t n ρ = t n ((ρ.set i (keepS o s)).set j (keepS u t')) := by
  unfold sSeq sPar2
  rw [h, rOut_ok, h', rOut_ok, oSeq_nx]
theorem seq_if0 (h : c ρ = .ok false) : sSeq (sIf c a sNil) t n ρ = t n ρ := by simp [h]
theorem seq_ifF (h : c ρ = .ok false) : sSeq (sIf c a b) t n ρ = oSeq (b n ρ) (t n) := by simp [h]
theorem seq_ifT (h : c ρ = .ok true) : sSeq (sIf c a b) t n ρ = oSeq (a n ρ) (t n) := by simp [h]
theorem seq_for (ds : List D) (ρ' : Rho) (h : it ρ = .ok ds) (hl : sLoop g b n ds ρ = .nx ρ') : sSeq (sFor it g b) t n ρ = t n ρ' := by simp [h, hl]
theorem seq_while (ρ' : Rho) (hl : sWhile c b n ρ = .nx ρ') : sSeq (sWhile c b) t n ρ = t n ρ' := by simp [hl]
theorem seq_frz : sFrz i a n ρ = a n (frzS i ρ) := rfl
theorem seq_ret (s : Sl) (h : f ρ = .ok s) : sRet f n ρ = .rt s := by simp [h]
theorem seq_nx (ρ' : Rho) (h : a n ρ = .nx ρ') : sSeq a t n ρ = t n ρ' := by simp [h]
end

/-! ### == -/
theorem toPys_ints : ∀ is : List Int, toPys (is.map .int) = some (is.map .int)
  | [] => rfl
  | i :: is => by
    rw [List.map_cons]
    unfold toPys
    rw [toPys_ints is]
    rfl
theorem lay_ints : ∀ is : List Int, PyData.canLayAll0 (is.map .int) = true ∧ PyData.depthAll (is.map .int) = 0
  | [] => ⟨rfl, rfl⟩
  | i :: is => by
    obtain ⟨h1, h2⟩ := lay_ints is
    rw [List.map_cons]
    refine ⟨?_, ?_⟩
    · unfold PyData.canLayAll0; rw [h1]; rfl
    · unfold PyData.depthAll; rw [h2]; rfl
theorem eqv_ints : ∀ is js : List Int, PyData.eqvAll (is.map .int) (js.map .int) = decide (is = js)
  | [], [] => rfl
  | [], _ :: _ => rfl
  | _ :: _, [] => rfl
  | i :: is, j :: js => by
    rw [List.map_cons, List.map_cons]
    unfold PyData.eqvAll
    rw [eqv_ints is js]
    have e : PyData.eqv (.int i) (.int j) = decide (i = j) := by unfold PyData.eqv; exact Bool.beq_eq_decide_eq i j
    rw [e]
    by_cases h : i = j <;> by_cases h2 : is = js <;> simp [h, h2]
theorem eqR_lst (is js : List Int) : eqR (.lst (is.map .int)) (.lst (js.map .int)) = some (decide (is = js)) := by
  obtain ⟨h1, h2⟩ := lay_ints is
  obtain ⟨h3, h4⟩ := lay_ints js
  unfold eqR toPy
  rw [toPys_ints, toPys_ints]
  have s1 : ∀ xs : List Int, PyData.canLayAll0 (xs.map .int) = true → PyData.depthAll (xs.map .int) = 0 → SeqAt.shaped (.list (xs.map .int)) = true := fun xs a b => by
    unfold SeqAt.shaped PyData.canLay0 PyData.depth
    rw [a, b]; rfl
  show (if SeqAt.shaped (.list (is.map .int)) && SeqAt.shaped (.list (js.map .int)) then some (PyData.eqv (.list (is.map .int)) (.list (js.map .int))) else none) = _
  rw [s1 is h1 h2, s1 js h3 h4]
  show some (PyData.eqv _ _) = _
  unfold PyData.eqv
  rw [eqv_ints]
theorem eqR_tup (is js : List Int) : eqR (.tup (is.map .int)) (.tup (js.map .int)) = some (decide (is = js)) := by
  obtain ⟨h1, h2⟩ := lay_ints is
  obtain ⟨h3, h4⟩ := lay_ints js
  unfold eqR toPy
  rw [toPys_ints, toPys_ints]
  have s1 : ∀ xs : List Int, PyData.canLayAll0 (xs.map .int) = true → PyData.depthAll (xs.map .int) = 0 → SeqAt.shaped (.tuple (xs.map .int)) = true := fun xs a b => by
    unfold SeqAt.shaped PyData.canLay0 PyData.depth
    rw [a, b]; rfl
  show (if SeqAt.shaped (.tuple (is.map .int)) && SeqAt.shaped (.tuple (js.map .int)) then some (PyData.eqv (.tuple (is.map .int)) (.tuple (js.map .int))) else none) = _
  rw [s1 is h1 h2, s1 js h3 h4]
  show some (PyData.eqv _ _) = _
  unfold PyData.eqv
  rw [eqv_ints]
@[simp] theorem eqR_int (i j : Int) : eqR (.int i) (.int j) = some (decide (i = j)) := by
  show (if SeqAt.shaped (.int i) && SeqAt.shaped (.int j) then some (PyData.eqv (.int i) (.int j)) else none) = _
  have s1 : ∀ i : Int, SeqAt.shaped (.int i) = true := fun i => by unfold SeqAt.shaped PyData.canLay0 PyData.depth; rfl
  rw [s1, s1]
  show some (PyData.eqv _ _) = _
  unfold PyData.eqv
  rw [Bool.beq_eq_decide_eq]
@[simp] theorem eqR_bl (i j : Bool) : eqR (.bl i) (.bl j) = some (decide (i = j)) := by
  cases i <;> cases j <;> decide +kernel
theorem eqR_tup2 (a b c d : Int) : eqR (.tup [.int a, .int b]) (.tup [.int c, .int d]) = some (decide ([a, b] = [c, d])) := eqR_tup [a, b] [c, d]
theorem eqR_tup4 (a b c d e f g h : Int) : eqR (.tup [.int a, .int b, .int c, .int d]) (.tup [.int e, .int f, .int g, .int h]) = some (decide ([a, b, c, d] = [e, f, g, h])) := eqR_tup [a, b, c, d] [e, f, g, h]

/-! ### sizes in bits, for the guards of `*` -/
def Sz (k : Nat) (i : Int) : Prop := i.natAbs < 2 ^ k
section
variable {a b : Nat} {i j : Int}
theorem Sz.mono (h : Sz a i) (hb : a ≤ b) : Sz b i := Nat.lt_of_lt_of_le h (Nat.pow_le_pow_right (by decide) hb)
theorem Sz.mul (h : Sz a i) (g : Sz b j) : Sz (a + b) (i * j) := by
  unfold Sz
  rw [Int.natAbs_mul, Nat.pow_add]
  exact Nat.mul_lt_mul'' h g
theorem Sz.add (h : Sz a i) (g : Sz b j) : Sz (max a b + 1) (i + j) := by
  have h1 : Sz (max a b) i := h.mono (Nat.le_max_left a b)
  have h2 : Sz (max a b) j := g.mono (Nat.le_max_right a b)
  unfold Sz at *
  rw [Nat.pow_succ]
  omega
theorem Sz.neg (h : Sz a i) : Sz a (-i) := by unfold Sz at *; rw [Int.natAbs_neg]; exact h
theorem Sz.sub (h : Sz a i) (g : Sz b j) : Sz (max a b + 1) (i - j) := by rw [Int.sub_eq_add_neg]; exact h.add g.neg
theorem Sz.lit (h : i.natAbs < 18446744073709551616) : Sz 64 i := h
theorem Sz.of (k : Nat) (h1 : -((2 ^ k : Nat) : Int) < i) (h2 : i < ((2 ^ k : Nat) : Int)) : Sz k i := natAbs_lt h1 h2
theorem Sz.emod (h : Sz b j) (h0 : 0 < j) : Sz b (i % j) := by
  have h1 := Int.emod_nonneg i (show j ≠ 0 by omega)
  have h2 := Int.emod_lt_of_pos i h0
  unfold Sz at *
  omega
theorem Sz.bits (h : Sz a i) (h0 : 0 < a := by decide) : Builtin.Int.intBits i ≤ a := intBits_lt h h0
theorem mulOk_sz (h : Sz a i) (g : Sz b j) (hb : a + b ≤ 134217726) : mulOk i j = true := by
  have h1 : Sz (a + 1) i := h.mono (Nat.le_succ a)
  have g1 : Sz (b + 1) j := g.mono (Nat.le_succ b)
  exact mulOk_of h1 g1 (Nat.succ_pos a) (Nat.succ_pos b) (by omega)
end

/-! ### single steps of expressions -/
section
variable {g : D → D → R D} {g1 : D → R D} {gl : List D → R D} {f h : Rho → R D} {m : Rho → R Sl} {fs : Rho → R (List D)} {mir : List D → R Sl} {ρ : Rho} {a b d : D} {ds : List D} {r : R D} {rs : R Sl} {s : Sl} {c c' : Rho → R Bool} {k : Bool} {rb : R Bool}
theorem op2_ok (hf : f ρ = .ok a) (hh : h ρ = .ok b) (hg : g a b = r) : op2 g f h ρ = r := by simp [hf, hh, hg]
theorem op1_ok (hf : f ρ = .ok a) (hg : g1 a = r) : op1 g1 f ρ = r := by simp [hf, hg]
theorem opL_ok (hf : fs ρ = .ok ds) (hg : gl ds = r) : opL gl fs ρ = r := by simp [hf, hg]
theorem toF_ok (hf : f ρ = .ok d) (hd : flatD d = true := by rfl) : toF f ρ = .ok (.fz d) := by
  show (f ρ).bind _ = _
  rw [hf, R.bind_ok, if_pos hd]
theorem toV_fz (hf : m ρ = .ok (.fz d)) : toV m ρ = .ok d := by simp [hf]
theorem toV_ow (hf : m ρ = .ok (.ow d)) : toV m ρ = .ok d := by simp [hf]
theorem callF_ok (hf : fs ρ = .ok ds) (e : mir ds = rs) : callF mir fs ρ = rs := by simp [hf, e]
theorem consA_ok (hf : f ρ = .ok d) (hs : fs ρ = .ok ds) : consA f fs ρ = .ok (d :: ds) := by simp [hf, hs]
theorem orT_no (h1 : c ρ = .ok false) (h2 : c' ρ = rb) : orT c c' ρ = rb := by simp [h1, h2]
theorem orT_yes (h1 : c ρ = .ok true) : orT c c' ρ = .ok true := by simp [h1]
theorem andT_yes (h1 : c ρ = .ok true) (h2 : c' ρ = rb) : andT c c' ρ = rb := by simp [h1, h2]
theorem andT_no (h1 : c ρ = .ok false) : andT c c' ρ = .ok false := by simp [h1]
theorem notT_ok (h1 : c ρ = .ok k) : notT c ρ = .ok (!k) := by simp [h1]
theorem toT_ok (h1 : f ρ = .ok (.bl k)) : toT f ρ = .ok k := by simp [h1]
theorem tupF_ok (hf : fs ρ = .ok ds) (hl : ds.length ≤ 100000) : tupF fs ρ = .ok (.fz (.tup ds)) := by
  have : ds.length ≤ sizeLine := by rw [sizeLine_eq]; omega
  simp [hf, this]
theorem lstF_ok (hf : fs ρ = .ok ds) (hl : ds.length ≤ 100000) : lstF fs ρ = .ok (.ow (.lst ds)) := by
  have : ds.length ≤ sizeLine := by rw [sizeLine_eq]; omega
  simp [hf, this]
theorem eqD_ok (h : eqR a b = some k) : eqD a b = .ok (.bl k) := by simp [h]
theorem neD_ok (h : eqR a b = some k) : neD a b = .ok (.bl !k) := by simp [h]
theorem ifT_no {x y : Sem} {n : Nat} (h : c ρ = .ok false) : sIf c x y n ρ = y n ρ := by simp [h]
theorem ifT_yes {x y : Sem} {n : Nat} (h : c ρ = .ok true) : sIf c x y n ρ = x n ρ := by simp [h]
end

/-! ### statement by statement, the slots in their plain form -/
section
variable {i j l : Nat} {f f' : Rho → R Sl} {fs : Rho → R (List D)} {t a b : Sem} {n : Nat} {ρ : Rho} {c : Rho → R Bool} {g : D → Rho → R Rho} {it : Rho → R (List D)} {ds : List D} {d : D} {o : Out}
theorem st_set (s : Sl) (ρ' : Rho) (h : f ρ = .ok s) (hρ : ρ.set i (frzL s) = ρ') (k : t n ρ' = o) : sSeq (sSet i f) t n ρ = o := by rw [← k, ← hρ]; exact seq_set s h
theorem st_own (s : Sl) (ρ' : Rho) (h : f ρ = .ok s) (hρ : ρ.set i s = ρ') (k : t n ρ' = o) : sSeq (sOwn i f) t n ρ = o := by rw [← k, ← hρ]; exact seq_own s h
theorem st_asg (d : D) (ρ' : Rho) (h : toV f ρ = .ok d) (hρ : g d ρ = .ok ρ') (k : t n ρ' = o) : sSeq (sAsg f g) t n ρ = o := by rw [← k]; exact seq_asg d ρ' h hρ
theorem st_par (d e : D) (ρ' : Rho) (h : fs ρ = .ok [d, e]) (hρ : (ρ.set i (.fz d)).set j (.fz e) = ρ') (k : t n ρ' = o) : sSeq (sPar i j fs) t n ρ = o := by rw [← k, ← hρ]; exact seq_par d e h
theorem st_par2 {u v : Bool} (s s' : Sl) (ρ' : Rho) (h : f ρ = .ok s) (h' : f' ρ = .ok s') (hρ : (ρ.set i (keepS u s)).set j (keepS v s') = ρ') (k : t n ρ' = o) : sSeq (sPar2 i j u v f f') t n ρ = o := by rw [← k, ← hρ]; exact seq_par2 s s' h h'
theorem st_par3 (d e e' : D) (ρ' : Rho) (h : fs ρ = .ok [d, e, e']) (hρ : ((ρ.set i (.fz d)).set j (.fz e)).set l (.fz e') = ρ') (k : t n ρ' = o) : sSeq (sPar3 i j l fs) t n ρ = o := by rw [← k, ← hρ]; exact seq_par3 d e e' h
theorem st_if0 (h : c ρ = .ok false) (k : t n ρ = o) : sSeq (sIf c a sNil) t n ρ = o := by rw [← k]; exact seq_if0 h
theorem st_ifT (h : c ρ = .ok true) (k : oSeq (a n ρ) (t n) = o) : sSeq (sIf c a b) t n ρ = o := by rw [← k]; exact seq_ifT h
theorem st_ifF (h : c ρ = .ok false) (k : oSeq (b n ρ) (t n) = o) : sSeq (sIf c a b) t n ρ = o := by rw [← k]; exact seq_ifF h
theorem st_for (ds : List D) (ρ' : Rho) (h : it ρ = .ok ds) (hl : sLoop g b n ds ρ = .nx ρ') (k : t n ρ' = o) : sSeq (sFor it g b) t n ρ = o := by rw [← k]; exact seq_for ds ρ' h hl
theorem st_while (ρ' : Rho) (hl : sWhile c b n ρ = .nx ρ') (k : t n ρ' = o) : sSeq (sWhile c b) t n ρ = o := by rw [← k]; exact seq_while ρ' hl
theorem st_nx (ρ' : Rho) (h : a n ρ = .nx ρ') (k : t n ρ' = o) : sSeq a t n ρ = o := by rw [← k]; exact seq_nx ρ' h
theorem st_ret (s : Sl) (h : f ρ = .ok s) : sRet f n ρ = .rt s := seq_ret s h
theorem st_retS (s : Sl) (h : f ρ = .ok s) : sSeq (sRet f) t n ρ = .rt s := by simp [h]
/-- an if's branch that ends plainly -/
theorem oSeq_of {o' : Out} (ρ' : Rho) {k : Rho → Out} (h : o' = .nx ρ') (e : k ρ' = o) : oSeq o' k = o := by rw [h]; exact e
end

/-! ### comprehensions -/
theorem lcL_map {g : D → Rho → R Rho} {f : Rho → R Sl} {ρ : Rho} (F : D → D) : ∀ ds : List D, (∀ d ∈ ds, ∃ ρ1, g d ρ = .ok ρ1 ∧ toV f ρ1 = .ok (F d)) → lcL g yesT f ρ ds = .ok (ds.map F)
  | [], _ => rfl
  | d :: ds, h => by
    obtain ⟨ρ1, h1, h2⟩ := h d List.mem_cons_self
    have ih := lcL_map F ds fun x hx => h x (List.mem_cons_of_mem _ hx)
    unfold lcL
    rw [h1, nox_ok, R.bind_ok, show yesT ρ1 = .ok true from rfl, nox_ok, R.bind_ok, if_pos rfl, h2, nox_ok, R.bind_ok, ih, R.bind_ok, List.map_cons]
/-- .. with a test -/
theorem lcL_filter {g : D → Rho → R Rho} {c : Rho → R Bool} {f : Rho → R Sl} {ρ : Rho} (p : D → Bool) (F : D → D) : ∀ ds : List D, (∀ d ∈ ds, ∃ ρ1, g d ρ = .ok ρ1 ∧ c ρ1 = .ok (p d) ∧ (p d = true → toV f ρ1 = .ok (F d))) → lcL g c f ρ ds = .ok ((ds.filter p).map F)
  | [], _ => rfl
  | d :: ds, h => by
    obtain ⟨ρ1, h1, h2, h3⟩ := h d List.mem_cons_self
    have ih := lcL_filter p F ds fun x hx => h x (List.mem_cons_of_mem _ hx)
    unfold lcL
    rw [h1, nox_ok, R.bind_ok, h2, nox_ok, R.bind_ok]
    cases e : p d with
    | true => rw [if_pos rfl, h3 e, nox_ok, R.bind_ok, ih, R.bind_ok, List.filter_cons_of_pos e, List.map_cons]
    | false => rw [if_neg Bool.false_ne_true, ih, List.filter_cons_of_neg (by rw [e]; decide)]
theorem asBls_map {α : Type} (h : α → Bool) : ∀ l : List α, asBls (l.map fun x => .bl (h x)) = some (l.map h)
  | [] => rfl
  | x :: l => by
    rw [List.map_cons, List.map_cons]
    show (asBls (l.map fun x => .bl (h x))).map (h x :: ·) = _
    rw [asBls_map h l]; rfl
theorem cutG_mid {α : Type} {xs : List α} {i j : Nat} (h : i ≤ j) (hj : j ≤ xs.length) : cutG xs (some (i : Int)) (some (j : Int)) = (xs.take j).drop i := by
  unfold cutG
  rw [show HT.sIx xs.length 0 (some (i : Int)) = min i xs.length from HT.sIx_nat _ _ _, show HT.sIx xs.length xs.length (some (j : Int)) = min j xs.length from HT.sIx_nat _ _ _, Nat.min_eq_left (Nat.le_trans h hj), Nat.min_eq_left hj, List.drop_take]
end Mp

namespace RL
open PySem PySem.Spec PyProof.Rows L2 Mp
open Mp (D Sem)
noncomputable def L1__is_member : Sem :=
  sSeq (sIf (toT (op2 gtD (rdV 4) (rdV 0)))
  (sRet (toF (cV (.bl false))))
  (sNil))
  (sPar 4 5 (consA (toV (rdF 5)) (consA (toV (toF (op2 subD (op2 mulD (op2 mulD (cV (.int 2)) (rdV 2)) (rdV 5)) (rdV 4)))) (nilA))))
noncomputable def B__is_member : Sem :=
  sSeq (sIf (toT (op2 ltD (rdV 0) (cV (.int 0))))
  (sRet (toF (cV (.bl false))))
  (sNil))
  (sSeq (sAsg (tupF (consA (toV (toF (cV (.int 0)))) (consA (toV (toF (cV (.int 1)))) (nilA)))) (gTp 2 (gCn (gN 4) (gCn (gN 5) (gNl)))))
  (sSeq (sFor (rngB (consA (rdV 1) (nilA))) (gN 3) L1__is_member)
  (sRet (toF (op2 eqD (rdV 4) (rdV 0))))))
noncomputable def mi__is_member : List D → R Sl := fun ds => outR (B__is_member 1000000 (startN 6 ds))
noncomputable def C1__power : Rho → R Bool :=
  toT (op2 gtD (rdV 1) (cV (.int 0)))
noncomputable def L1__power : Sem :=
  sSeq (sIf (toT (op2 eqD (op2 modD (rdV 1) (cV (.int 2))) (cV (.int 1))))
  (sAug 2 mulD (rdV 3))
  (sNil))
  (sSeq (sAug 3 mulD (rdV 3))
  (sAug 1 divD (cV (.int 2))))
noncomputable def B__power : Sem :=
  sSeq (sSet 2 (toF (cV (.int 1))))
  (sSeq (sSet 3 (rdF 0))
  (sSeq (sWhile C1__power L1__power)
  (sRetV 2)))
noncomputable def mi__power : List D → R Sl := fun ds => outR (B__power 1000000 (startN 4 ds))
noncomputable def B__is_power : Sem :=
  sSeq (sIf (toT (op2 ltD (rdV 0) (cV (.int 0))))
  (sRet (toF (cV (.bl false))))
  (sNil))
  (sSeq (sIf (toT (op2 ltD (rdV 1) (cV (.int 2))))
  (sRet (toF (op2 eqD (rdV 0) (iteM (orT (toT (op2 eqD (rdV 2) (cV (.int 0)))) (toT (op2 eqD (rdV 1) (cV (.int 1))))) (cV (.int 1)) (cV (.int 0))))))
  (sNil))
  (sSeq (sIf (toT (op2 gtD (op2 mulD (op2 subD (op1 bitsD (rdV 1)) (cV (.int 1))) (rdV 2)) (op1 bitsD (rdV 0))))
  (sRet (toF (cV (.bl false))))
  (sNil))
  (sRet (toF (op2 eqD (rdV 0) (toV (callF mi__power (consA (toV (rdF 1)) (consA (toV (rdF 2)) (nilA))))))))))
noncomputable def mi__is_power : List D → R Sl := fun ds => outR (B__is_power 1000000 (startN 3 ds))
noncomputable def L1__law_clean : Sem :=
  sIf (toT (op2 neD (op2 ixD (rdV 0) (rdV 2)) (cV (.int 0))))
  (sAsg (ixF (rdV 0) (rdV 2)) (gPut 1 (rdV 2)))
  (sNil)
noncomputable def B__law_clean : Sem :=
  sSeq (sOwn 1 (fun _ => .ok (.ow (.dt [] []))))
  (sSeq (sForK 0 (gN 2) L1__law_clean)
  (sRetV 1))
noncomputable def mi__law_clean : List D → R Sl := fun ds => outR (B__law_clean 1000000 (startN 3 ds))
noncomputable def B__law_given : Sem :=
  sSeq (sIf (toT (op2 eqD (op2 modD (rdV 1) (cV (.int 3))) (cV (.int 0))))
  (sRet (tupF (consA (toV (callF mi__law_clean (consA (toV (dspT (consT (tupF (nilA)) (rdF 0) (nilT)))) (nilA)))) (consA (toV (fun _ => .ok (.ow (.dk [] [])))) (nilA)))))
  (sNil))
  (sSeq (sIf (andT (toT (op2 eqD (op2 modD (rdV 1) (cV (.int 3))) (cV (.int 1)))) (toT (op2 geD (rdV 0) (cV (.int 0)))))
  (sRet (tupF (consA (toV (dspT (consT (tupF (consA (toV (toF (cV (.str "x")))) (nilA))) (toF (cV (.int 1))) (nilT)))) (consA (toV (dspF (consP (cV (.str "x")) (rdF 0) (nilP)))) (nilA)))))
  (sNil))
  (sRet (tupF (consA (toV (callF mi__law_clean (consA (toV (dspT (consT (tupF (consA (toV (toF (cV (.str "x")))) (nilA))) (toF (cV (.int 1))) (consT (tupF (nilA)) (toF (op2 subD (rdV 0) (cV (.int 7)))) (nilT))))) (nilA)))) (consA (toV (dspF (consP (cV (.str "x")) (toF (cV (.int 7))) (nilP)))) (nilA))))))
noncomputable def mi__law_given : List D → R Sl := fun ds => outR (B__law_given 1000000 (startN 2 ds))
noncomputable def L1__law_member : Sem :=
  sSeq (sSet 5 (toF (op2 subD (op2 mulD (op2 mulD (cV (.int 2)) (rdV 1)) (rdV 3)) (rdV 2))))
  (sSeq (sSet 2 (rdF 3))
  (sSet 3 (rdF 5)))
noncomputable def B__law_member : Sem :=
  sSeq (sSet 2 (toF (cV (.int 0))))
  (sSeq (sSet 3 (toF (cV (.int 1))))
  (sSeq (sFor (rng1 (consA (rdV 0) (nilA))) (gN 4) L1__law_member)
  (sRetV 2)))
noncomputable def mi__law_member : List D → R Sl := fun ds => outR (B__law_member 1000000 (startN 6 ds))
noncomputable def L1__law_numbers : Sem :=
  sIf (andT (toT (op2 gtD (rdV 4) (cV (.int 0)))) (toT (op2 ltD (opL lenD (consA (rdV 2) (nilA))) (rdV 1))))
  (sSeq (sApp 2 (toF (op2 modD (rdV 4) (cV (.int 1000)))))
  (sSet 4 (toF (op2 divD (rdV 4) (cV (.int 1000))))))
  (sNil)
noncomputable def L2__law_numbers : Sem :=
  sSeq (sSet 6 (toF (op2 modD (opL intD (consA (op2 addD (op2 addD (op2 addD (op2 mulD (rdV 4) (cV (.int 48271))) (op2 mulD (rdV 3) (cV (.int 69621)))) (op2 mulD (rdV 5) (cV (.int 16807)))) (cV (.int 11))) (nilA))) (cV (.int 2147483647)))))
  (sSeq (sSet 6 (toF (op2 modD (opL intD (consA (op2 addD (op2 mulD (rdV 6) (rdV 6)) (rdV 5)) (nilA))) (cV (.int 2147483629)))))
  (sApp 2 (toF (op2 modD (op2 divD (rdV 6) (cV (.int 7))) (cV (.int 1000))))))
noncomputable def L3__law_numbers : Sem :=
  sSeq (sSet 4 (toF (opL absD (consA (op2 ixD (rdV 0) (rdV 3)) (nilA)))))
  (sIf (toT (op2 geD (rdV 4) (op2 powD (cV (.int 10)) (cV (.int 18)))))
  (sFor (rng1 (consA (cV (.int 60)) (nilA))) (gN 5) L1__law_numbers)
  (sFor (rng1 (consA (cV (.int 5)) (nilA))) (gN 5) L2__law_numbers))
noncomputable def B__law_numbers : Sem :=
  sSeq (sOwn 2 (lstF (nilA)))
  (sSeq (sFor (rng1 (consA (opL lenD (consA (rdV 0) (nilA))) (nilA))) (gN 3) L3__law_numbers)
  (sRet (cutF (rdV 2) (oNo) (oSo (rdV 1)))))
noncomputable def mi__law_numbers : List D → R Sl := fun ds => outR (B__law_numbers 1000000 (startN 7 ds))
noncomputable def B__law_take : Sem :=
  sSeq (sIf (toT (op2 ltD (op2 ixD (rdV 1) (cV (.int 0))) (opL lenD (consA (rdV 0) (nilA)))))
  (sSeq (sAsg (toF (op2 addD (op2 ixD (rdV 1) (cV (.int 0))) (cV (.int 1)))) (gPut 1 (cV (.int 0))))
  (sRetP 1 (ixF (rdV 0) (op2 subD (op2 ixD (rdV 1) (cV (.int 0))) (cV (.int 1))))))
  (sNil))
  (sRetP 1 (toF (cV (.int 0))))
noncomputable def mi__law_take : List D → List Int → R (D × List Int) := fun ds is => comR fun p => outP p (B__law_take 1000000 (startP 2 ds p is))
noncomputable def L1__law_numbers_of : Sem :=
  sSet 9 (toF (op2 addD (op2 addD (op2 mulD (rdV 9) (cV (.int 999983))) (rdV 4)) (rdV 12)))
noncomputable def L2__law_numbers_of : Sem :=
  sSet 8 (toF (op2 mulD (rdV 8) (rdV 6)))
noncomputable def B__law_numbers_of : Sem :=
  sSeq (sSetX 3 (callP 2 mi__law_take (consA (toV (rdF 1)) (nilA))))
  (sSeq (sSetX 4 (callP 2 mi__law_take (consA (toV (rdF 1)) (nilA))))
  (sSeq (sSetX 5 (ixX (xOf (tupF (consA (toV (toF (cV (.int 0)))) (consA (toV (toF (cV (.int 0)))) (consA (toV (toF (cV (.int 0)))) (consA (toV (toF (cV (.int 1)))) (consA (toV (toF (op1 negD (cV (.int 1))))) (consA (toV (toF (cV (.int 0)))) (nilA))))))))) (op2X modD (callP 2 mi__law_take (consA (toV (rdF 1)) (nilA))) (xOf (toF (cV (.int 6)))))))
  (sSeq (sIf (toT (op2 eqD (rdV 0) (cV (.int 0))))
  (sRetP 2 (lstF (consA (toV (ixF (toV (tupF (consA (toV (toF (cV (.int 0)))) (consA (toV (toF (cV (.int 0)))) (consA (toV (toF (cV (.int 1)))) (consA (toV (toF (op1 negD (cV (.int 1))))) (consA (toV (rdF 3)) (nilA)))))))) (op2 modD (rdV 4) (cV (.int 5))))) (nilA))))
  (sNil))
  (sSeq (sIf (toT (op2 eqD (rdV 0) (cV (.int 1))))
  (sSeq (sSet 9 (toF (op2 addD (op2 mulD (rdV 3) (cV (.int 1000))) (rdV 4))))
  (sSeq (sIf (toT (op2 eqD (op2 modD (rdV 4) (cV (.int 7))) (cV (.int 3))))
  (sFor (rng1 (consA (cV (.int 100)) (nilA))) (gN 12) L1__law_numbers_of)
  (sNil))
  (sSeq (sSetX 10 (ixX (xOf (lstF (consA (toV (rdF 9)) (consA (toV (toF (op2 divD (rdV 9) (cV (.int 2))))) (consA (toV (toF (op2 mulD (rdV 3) (cV (.int 1000))))) (consA (toV (toF (op2 modD (rdV 4) (cV (.int 8))))) (consA (toV (toF (op1 negD (cV (.int 1))))) (consA (toV (toF (op2 addD (rdV 9) (cV (.int 1))))) (consA (toV (toF (op2 subD (op2 divD (rdV 9) (cV (.int 2))) (op2 divD (rdV 9) (cV (.int 4)))))) (nilA)))))))))) (op2X modD (callP 2 mi__law_take (consA (toV (rdF 1)) (nilA))) (xOf (toF (cV (.int 7)))))))
  (sRetP 2 (lstF (consA (toV (rdF 10)) (consA (toV (ixF (toV (tupF (consA (toV (rdF 9)) (consA (toV (rdF 9)) (consA (toV (toF (cV (.int 0)))) (consA (toV (toF (op1 negD (cV (.int 3))))) (consA (toV (toF (op2 subD (op2 powD (cV (.int 2)) (cV (.int 60))) (cV (.int 1))))) (nilA)))))))) (op2 modD (op2 divD (rdV 4) (cV (.int 8))) (cV (.int 5))))) (nilA))))))))
  (sNil))
  (sSeq (sIf (toT (op2 eqD (rdV 0) (cV (.int 2))))
  (sSeq (sSet 6 (ixF (toV (tupF (consA (toV (toF (cV (.int 0)))) (consA (toV (toF (cV (.int 1)))) (consA (toV (toF (cV (.int 2)))) (consA (toV (toF (cV (.int 3)))) (consA (toV (rdF 3)) (consA (toV (toF (cV (.int 10)))) (consA (toV (toF (op1 negD (cV (.int 2))))) (nilA)))))))))) (op2 modD (op2 divD (rdV 3) (cV (.int 7))) (cV (.int 7)))))
  (sSeq (sSet 11 (ixF (toV (tupF (consA (toV (toF (cV (.int 0)))) (consA (toV (toF (cV (.int 1)))) (consA (toV (toF (cV (.int 2)))) (consA (toV (toF (cV (.int 3)))) (consA (toV (toF (op2 modD (rdV 4) (cV (.int 12))))) (consA (toV (toF (op2 addD (cV (.int 100)) (op2 modD (rdV 4) (cV (.int 300)))))) (consA (toV (toF (op2 powD (cV (.int 10)) (cV (.int 30))))) (consA (toV (toF (op1 negD (cV (.int 1))))) (nilA))))))))))) (op2 modD (op2 divD (rdV 4) (cV (.int 12))) (cV (.int 8)))))
  (sSeq (sSet 8 (rdF 3))
  (sSeq (sIf (andT (toT (op2 ltD (rdV 11) (cV (.int 600)))) (toT (op2 geD (rdV 11) (cV (.int 0)))))
  (sSeq (sSet 8 (toF (cV (.int 1))))
  (sFor (rng1 (consA (rdV 11) (nilA))) (gN 12) L2__law_numbers_of))
  (sNil))
  (sRetP 2 (lstF (consA (toV (toF (op2 addD (rdV 8) (rdV 5)))) (consA (toV (rdF 6)) (consA (toV (rdF 11)) (nilA))))))))))
  (sNil))
  (sSeq (sSet 6 (ixF (toV (tupF (consA (toV (toF (cV (.int 2)))) (consA (toV (toF (cV (.int 3)))) (consA (toV (toF (cV (.int 4)))) (consA (toV (rdF 3)) (consA (toV (toF (cV (.int 1)))) (consA (toV (toF (cV (.int 0)))) (nilA))))))))) (op2 modD (op2 divD (rdV 3) (cV (.int 6))) (cV (.int 6)))))
  (sSeq (sSet 7 (ixF (toV (tupF (consA (toV (toF (cV (.int 0)))) (consA (toV (toF (cV (.int 1)))) (consA (toV (toF (cV (.int 2)))) (consA (toV (toF (cV (.int 3)))) (consA (toV (toF (op2 modD (rdV 4) (cV (.int 14))))) (consA (toV (toF (op2 addD (cV (.int 100)) (op2 modD (rdV 4) (cV (.int 101)))))) (consA (toV (toF (op2 powD (cV (.int 10)) (cV (.int 30))))) (consA (toV (toF (op1 negD (cV (.int 1))))) (nilA))))))))))) (op2 modD (op2 divD (rdV 4) (cV (.int 14))) (cV (.int 8)))))
  (sSeq (sSet 8 (rdF 4))
  (sSeq (sIf (chainT leD ltD (cV (.int 0)) (rdV 7) (cV (.int 300)))
  (sSet 8 (callF mi__law_member (consA (toV (rdF 7)) (consA (toV (rdF 6)) (nilA)))))
  (sNil))
  (sRetP 2 (lstF (consA (toV (toF (op2 addD (rdV 8) (rdV 5)))) (consA (toV (rdF 7)) (consA (toV (rdF 6)) (nilA)))))))))))))))
noncomputable def mi__law_numbers_of : List D → List Int → R (D × List Int) := fun ds is => comR fun p => outP p (B__law_numbers_of 1000000 (startP 13 ds p is))
noncomputable def L1__law_under_2 : Sem :=
  sSeq (sIf (toT (op2 gtD (op2 modD (rdV 0) (cV (.int 2))) (op2 modD (rdV 1) (cV (.int 2)))))
  (sRet (toF (cV (.bl false))))
  (sNil))
  (sSeq (sSet 0 (toF (op2 divD (rdV 0) (cV (.int 2)))))
  (sSeq (sSet 1 (toF (op2 divD (rdV 1) (cV (.int 2)))))
  (sIf (toT (op2 eqD (rdV 0) (cV (.int 0))))
  (sRet (toF (cV (.bl true))))
  (sNil))))
noncomputable def B__law_under_2 : Sem :=
  sSeq (sIf (orT (toT (op2 ltD (rdV 0) (cV (.int 0)))) (toT (op2 ltD (rdV 1) (cV (.int 0)))))
  (sRet (toF (cV (.bl false))))
  (sNil))
  (sSeq (sFor (rng1 (consA (cV (.int 3000)) (nilA))) (gN 2) L1__law_under_2)
  (sRet (toF (op2 leD (rdV 0) (rdV 1)))))
noncomputable def mi__law_under_2 : List D → R Sl := fun ds => outR (B__law_under_2 1000000 (startN 3 ds))
noncomputable def L1__law_told : Sem :=
  sSet 2 (toF (op2 mulD (rdV 2) (op2 ixD (rdV 1) (cV (.int 1)))))
noncomputable def B__law_told : Sem :=
  sSeq (sIf (toT (op2 eqD (rdV 0) (cV (.int 0))))
  (sRet (toF (op2 eqD (op2 ixD (rdV 1) (cV (.int 0))) (cV (.int 0)))))
  (sNil))
  (sSeq (sIf (toT (op2 eqD (rdV 0) (cV (.int 1))))
  (sRet (callF mi__law_under_2 (consA (toV (ixF (rdV 1) (cV (.int 0)))) (consA (toV (ixF (rdV 1) (cV (.int 1)))) (nilA)))))
  (sNil))
  (sSeq (sIf (toT (op2 eqD (rdV 0) (cV (.int 2))))
  (sSeq (sIf (orT (toT (op2 ltD (op2 ixD (rdV 1) (cV (.int 1))) (cV (.int 0)))) (toT (op2 ltD (op2 ixD (rdV 1) (cV (.int 2))) (cV (.int 0)))))
  (sRet (toF (cV (.bl false))))
  (sNil))
  (sSeq (sIf (toT (op2 gtD (op2 ixD (rdV 1) (cV (.int 2))) (cV (.int 600))))
  (sRet (toF (andV (op2 ltD (op2 ixD (rdV 1) (cV (.int 1))) (cV (.int 2))) (op2 eqD (op2 ixD (rdV 1) (cV (.int 0))) (op2 ixD (rdV 1) (cV (.int 1)))))))
  (sNil))
  (sSeq (sSet 2 (toF (cV (.int 1))))
  (sSeq (sFor (rng1 (consA (op2 ixD (rdV 1) (cV (.int 2))) (nilA))) (gN 3) L1__law_told)
  (sRet (toF (op2 eqD (op2 ixD (rdV 1) (cV (.int 0))) (rdV 2))))))))
  (sNil))
  (sSeq (sIf (orT (toT (op2 ltD (op2 ixD (rdV 1) (cV (.int 2))) (cV (.int 2)))) (toT (op2 ltD (op2 ixD (rdV 1) (cV (.int 1))) (cV (.int 0)))))
  (sRet (toF (cV (.bl false))))
  (sNil))
  (sRet (toF (andV (op2 ltD (op2 ixD (rdV 1) (cV (.int 1))) (cV (.int 300))) (op2 eqD (op2 ixD (rdV 1) (cV (.int 0))) (toV (callF mi__law_member (consA (toV (ixF (rdV 1) (cV (.int 1)))) (consA (toV (ixF (rdV 1) (cV (.int 2)))) (nilA))))))))))))
noncomputable def mi__law_told : List D → R Sl := fun ds => outR (B__law_told 1000000 (startN 4 ds))
noncomputable def L1_value_of : Sem :=
  sAug 4 mulD (op2 ixD (rdV 1) (rdV 5))
noncomputable def L2_value_of : Sem :=
  sSeq (sSet 4 (ixF (rdV 0) (rdV 3)))
  (sSeq (sFor (seqI (rdF 3)) (gN 5) L1_value_of)
  (sAug 2 iaddD (rdV 4)))
noncomputable def B_value_of : Sem :=
  sSeq (sSet 2 (toF (cV (.int 0))))
  (sSeq (sForK 0 (gN 3) L2_value_of)
  (sRetV 2))
noncomputable def mi_value_of : List D → R Sl := fun ds => outR (B_value_of 1000000 (startN 6 ds))
noncomputable def M1_holds : Rho → R Sl :=
  callF mi_value_of (consA (toV (rdF 3)) (consA (toV (rdF 1)) (nilA)))
noncomputable def B_holds : Sem :=
  sSeq (sSet 2 (lcF (seqV (toV (cutF (rdV 0) (oSo (cV (.int 1))) (oNo)))) (gN 3) yesT M1_holds [3]))
  (sSeq (sIf (toT (op2 eqD (op2 ixD (rdV 0) (cV (.int 0))) (cV (.str "zero"))))
  (sRet (toF (op2 eqD (op2 ixD (rdV 2) (cV (.int 0))) (cV (.int 0)))))
  (sNil))
  (sSeq (sIf (toT (op2 eqD (op2 ixD (rdV 0) (cV (.int 0))) (cV (.str "under"))))
  (sRet (toF (andV (op2 geD (opL minD (consA (rdV 2) (nilA))) (cV (.int 0))) (op2 eqD (op2 andD (op2 ixD (rdV 2) (cV (.int 0))) (op2 ixD (rdV 2) (cV (.int 1)))) (op2 ixD (rdV 2) (cV (.int 0)))))))
  (sNil))
  (sSeq (sIf (toT (op2 eqD (op2 ixD (rdV 0) (cV (.int 0))) (cV (.str "power"))))
  (sRet (toF (andV (op2 geD (op2 ixD (rdV 2) (cV (.int 1))) (cV (.int 0))) (andV (op2 geD (op2 ixD (rdV 2) (cV (.int 2))) (cV (.int 0))) (toV (callF mi__is_power (consA (toV (ixF (rdV 2) (cV (.int 0)))) (consA (toV (ixF (rdV 2) (cV (.int 1)))) (consA (toV (ixF (rdV 2) (cV (.int 2)))) (nilA))))))))))
  (sNil))
  (sRet (toF (andV (op2 geD (op2 ixD (rdV 2) (cV (.int 2))) (cV (.int 2))) (andV (op2 geD (op2 ixD (rdV 2) (cV (.int 1))) (cV (.int 0))) (toV (callF mi__is_member (consA (toV (ixF (rdV 2) (cV (.int 0)))) (consA (toV (ixF (rdV 2) (cV (.int 1)))) (consA (toV (ixF (rdV 2) (cV (.int 2)))) (nilA)))))))))))))
noncomputable def mi_holds : List D → R Sl := fun ds => outR (B_holds 1000000 (startN 4 ds))
noncomputable def L1_row_member : Sem :=
  sPar 3 4 (consA (toV (rdF 4)) (consA (toV (toF (op2 subD (op2 mulD (op2 mulD (cV (.int 2)) (rdV 1)) (rdV 4)) (rdV 3)))) (nilA)))
noncomputable def B_row_member : Sem :=
  sSeq (sAsg (tupF (consA (toV (toF (cV (.int 0)))) (consA (toV (toF (cV (.int 1)))) (nilA)))) (gTp 2 (gCn (gN 3) (gCn (gN 4) (gNl)))))
  (sSeq (sFor (rng1 (consA (rdV 0) (nilA))) (gN 2) L1_row_member)
  (sRetV 3))
noncomputable def mi_row_member : List D → R Sl := fun ds => outR (B_row_member 1000000 (startN 5 ds))
end RL

namespace K03
open PySem PySem.Spec PyProof.Rows L2 Mp
open Mp (D Sem)
open RL

def topS (i : Nat) : Stmt := PySem.Challenge.pw_runroots_k03_relations_that_hold.main.body.getD i (.Pass ⟨0, 0, 0, 0⟩)
abbrev s__law_numbers : Stmt := topS 9
abbrev N__law_numbers : List Str := ["_law_script", "_law_many", "_law_numbers_here", "_law_k", "_law_cell", "_law_j", "_law_mixed"]
theorem sc__law_numbers : FnScope N__law_numbers ["_law_script", "_law_many"] (defScope s__law_numbers) := ⟨rfl, rfl, rfl, by decide +kernel, rfl, by decide +kernel, by decide +kernel⟩
abbrev s__law_take : Stmt := topS 10
abbrev N__law_take : List Str := ["_law_numbers_here", "_law_place"]
theorem sc__law_take : FnScope N__law_take ["_law_numbers_here", "_law_place"] (defScope s__law_take) := ⟨rfl, rfl, rfl, by decide +kernel, rfl, by decide +kernel, by decide +kernel⟩
abbrev s__law_member : Stmt := topS 22
abbrev N__law_member : List Str := ["_law_n", "_law_a", "_law_here", "_law_after", "_law_k", "_law_later"]
theorem sc__law_member : FnScope N__law_member ["_law_n", "_law_a"] (defScope s__law_member) := ⟨rfl, rfl, rfl, by decide +kernel, rfl, by decide +kernel, by decide +kernel⟩
abbrev s__law_numbers_of : Stmt := topS 24
abbrev N__law_numbers_of : List Str := ["_law_kind", "_law_numbers_here", "_law_place", "_law_first", "_law_second", "_law_beside", "_law_base", "_law_at", "_law_value_here", "_law_great", "_law_small", "_law_power", "_law_k"]
theorem sc__law_numbers_of : FnScope N__law_numbers_of ["_law_kind", "_law_numbers_here", "_law_place"] (defScope s__law_numbers_of) := ⟨rfl, rfl, rfl, by decide +kernel, rfl, by decide +kernel, by decide +kernel⟩
abbrev s_value_of : Stmt := topS 1
abbrev N_value_of : List Str := ["polynomial", "values", "total", "monomial", "product", "name"]
theorem sc_value_of : FnScope N_value_of ["polynomial", "values"] (defScope s_value_of) := ⟨rfl, rfl, rfl, by decide +kernel, rfl, by decide +kernel, by decide +kernel⟩
abbrev s__is_member : Stmt := topS 6
abbrev N__is_member : List Str := ["y", "n", "a", "_", "here", "after"]
theorem sc__is_member : FnScope N__is_member ["y", "n", "a"] (defScope s__is_member) := ⟨rfl, rfl, rfl, by decide +kernel, rfl, by decide +kernel, by decide +kernel⟩
abbrev s__power : Stmt := topS 4
abbrev N__power : List Str := ["x", "y", "found", "square"]
theorem sc__power : FnScope N__power ["x", "y"] (defScope s__power) := ⟨rfl, rfl, rfl, by decide +kernel, rfl, by decide +kernel, by decide +kernel⟩
abbrev s__is_power : Stmt := topS 5
abbrev N__is_power : List Str := ["z", "x", "y"]
theorem sc__is_power : FnScope N__is_power ["z", "x", "y"] (defScope s__is_power) := ⟨rfl, rfl, rfl, by decide +kernel, rfl, by decide +kernel, by decide +kernel⟩
abbrev s_holds : Stmt := topS 7
abbrev N_holds : List Str := ["relation", "values", "numbers", "polynomial"]
theorem sc_holds : FnScope N_holds ["relation", "values"] (defScope s_holds) := ⟨rfl, rfl, rfl, by decide +kernel, rfl, by decide +kernel, by decide +kernel⟩
abbrev s_row_member : Stmt := topS 3
abbrev N_row_member : List Str := ["n", "a", "_", "here", "after"]
theorem sc_row_member : FnScope N_row_member ["n", "a"] (defScope s_row_member) := ⟨rfl, rfl, rfl, by decide +kernel, rfl, by decide +kernel, by decide +kernel⟩
abbrev s__law_clean : Stmt := topS 13
abbrev N__law_clean : List Str := ["_law_poly_here", "_law_found", "_law_key"]
theorem sc__law_clean : FnScope N__law_clean ["_law_poly_here"] (defScope s__law_clean) := ⟨rfl, rfl, rfl, by decide +kernel, rfl, by decide +kernel, by decide +kernel⟩
abbrev s__law_given : Stmt := topS 20
abbrev N__law_given : List Str := ["_law_value_here", "_law_number"]
theorem sc__law_given : FnScope N__law_given ["_law_value_here", "_law_number"] (defScope s__law_given) := ⟨rfl, rfl, rfl, by decide +kernel, rfl, by decide +kernel, by decide +kernel⟩
abbrev s__law_under : Stmt := topS 21
abbrev N__law_under : List Str := ["_law_a", "_law_b", "_law_k"]
theorem sc__law_under : FnScope N__law_under ["_law_a", "_law_b"] (defScope s__law_under) := ⟨rfl, rfl, rfl, by decide +kernel, rfl, by decide +kernel, by decide +kernel⟩
abbrev s__law_told : Stmt := topS 23
abbrev N__law_told : List Str := ["_law_kind", "_law_values_here", "_law_product", "_law_k"]
theorem sc__law_told : FnScope N__law_told ["_law_kind", "_law_values_here"] (defScope s__law_told) := ⟨rfl, rfl, rfl, by decide +kernel, rfl, by decide +kernel, by decide +kernel⟩
abbrev s_law : Stmt := topS 25
abbrev N_law : List Str := ["_law_script", "_law_numbers_here", "_law_place", "_law_turn", "_law_n", "_law_a", "_law_kind", "_law_values_here", "_law_at", "_law_polys", "_law_given_here", "_law_k", "_law_relation", "_law_actual", "_law_pair"]
theorem sc_law : FnScope N_law ["_law_script"] (defScope s_law) := ⟨rfl, rfl, rfl, by decide +kernel, rfl, by decide +kernel, by decide +kernel⟩

theorem ml__law_numbers : ∀ ds : List D, ds.length = 2 → mi__law_numbers ds = .no ∨ RunsTo B__law_numbers N__law_numbers ds (mi__law_numbers ds) := fun ds _ => .inr ⟨1000000, rfl⟩

theorem d__law_numbers {P : Program} {w : World} {K : PySem.W.Frag} {mg : Str → Option Value} {base : Heap} {f : Addr} {fd : FuncData} (F : Fun K "_law_numbers" "_law_numbers" s__law_numbers f fd) (gm : mg "_law_numbers" = some (.ref f)) (b : Binds K fd ["_law_script", "_law_many"] []) (z_len : mg "len" = none) (z_range : mg "range" = none) (z_abs : mg "abs" = none) (z_int : mg "int" = none) :
    FnM P w K mg base "_law_numbers" 1 2 mi__law_numbers := by
  refine fnm_of (s := B__law_numbers) F sc__law_numbers gm b rfl (fun cdv A outer s0 H E hr => ?_) ml__law_numbers
  have tk : Takes (cxOf (L2.CX P w) P w K mg base N__law_numbers "_law_numbers" (defScope s__law_numbers) f cdv A outer s0 H E) (fun cls d _ H => E cls d H) := takes_of rfl rfl rfl rfl
  have hp : PassesOwn (model P w) (A.deeper (envOfC "_law_numbers" (defScope s__law_numbers) s0.heap.objs.size f cdv)) (cxOf (L2.CX P w) P w K mg base N__law_numbers "_law_numbers" (defScope s__law_numbers) f cdv A outer s0 H E).env (cxOf (L2.CX P w) P w K mg base N__law_numbers "_law_numbers" (defScope s__law_numbers) f cdv A outer s0 H E).xe := passes_of (X := cxOf (L2.CX P w) P w K mg base N__law_numbers "_law_numbers" (defScope s__law_numbers) f cdv A outer s0 H E) rfl
  have nd := sc__law_numbers.nd
  have hu := hr.units
  have hv := room180 hr
  exact mss_cons (ms_own 2 nd (me_lst (ma_nil)))
      (mss_cons (ms_for (s := L3__law_numbers) hp rfl (mi_range1 z_range (ml_cons (mv_len z_len (ml_cons (mv_v 0) (ml_nil))) (ml_nil))) (mg_name 3 nd) (gN_nx)
      (mss_cons (ms_set 4 nd (me_of (mv_abs z_abs (ml_cons (mv_ix hv (mv_v 0) (mv_v 3)) (ml_nil)))))
      (mss_one (ms_if (mt_ge (mv_v 4) (mv_pow (mv_int) (mv_int)))
      (mss_one (ms_for (s := L1__law_numbers) hp rfl (mi_range1 z_range (ml_cons (mv_int) (ml_nil))) (mg_name 5 nd) (gN_nx)
      (mss_one (ms_if (mt_w (mw_and (mt_gt (mv_v 4) (mv_int)) (mw_and1 (mt_lt (mv_len z_len (ml_cons (mv_v 2) (ml_nil))) (mv_v 1)))))
      (mss_cons (ms_app 2 (me_of (mv_mod (mv_v 4) (mv_int))))
      (mss_one (ms_set 4 nd (me_of (mv_div (mv_v 4) (mv_int))))))
      (mss_nil)))))
      (mss_one (ms_for (s := L2__law_numbers) hp rfl (mi_range1 z_range (ml_cons (mv_int) (ml_nil))) (mg_name 5 nd) (gN_nx)
      (mss_cons (ms_set 6 nd (me_of (mv_mod (mv_intc z_int (ml_cons (mv_add (mv_add (mv_add (mv_mul (mv_v 4) (mv_int)) (mv_mul (mv_v 3) (mv_int))) (mv_mul (mv_v 5) (mv_int))) (mv_int)) (ml_nil))) (mv_int))))
      (mss_cons (ms_set 6 nd (me_of (mv_mod (mv_intc z_int (ml_cons (mv_add (mv_mul (mv_v 6) (mv_v 6)) (mv_v 5)) (ml_nil))) (mv_int))))
      (mss_one (ms_app 2 (me_of (mv_mod (mv_div (mv_v 6) (mv_int)) (mv_int)))))))))))))
      (mss_one (ms_ret (me_slice (mv_v 2) (mo_none) (mo_some (mv_v 1))))))

theorem ml__law_take : ∀ (ds : List D) (is : List Int), ds.length + 1 = 2 → mi__law_take ds is = .no ∨ ∃ n, ∀ p, outP p (B__law_take n (startP (N__law_take).length ds p is)) = mi__law_take ds is := fun ds is _ => (comR_or _).imp id fun h => ⟨1000000, h⟩

theorem d__law_take {P : Program} {w : World} {K : PySem.W.Frag} {mg : Str → Option Value} {base : Heap} {f : Addr} {fd : FuncData} (F : Fun K "_law_take" "_law_take" s__law_take f fd) (gm : mg "_law_take" = some (.ref f)) (b : Binds K fd ["_law_numbers_here", "_law_place"] []) (z_len : mg "len" = none) :
    FnP P w K mg base "_law_take" 1 2 mi__law_take := by
  refine fnp_of (s := B__law_take) F sc__law_take gm b rfl (fun cdv A outer s0 H E hr => ?_) ml__law_take
  have tk : Takes (cxOf (L2.CX P w) P w K mg base N__law_take "_law_take" (defScope s__law_take) f cdv A outer s0 H E) (fun cls d _ H => E cls d H) := takes_of rfl rfl rfl rfl
  have hp : PassesOwn (model P w) (A.deeper (envOfC "_law_take" (defScope s__law_take) s0.heap.objs.size f cdv)) (cxOf (L2.CX P w) P w K mg base N__law_take "_law_take" (defScope s__law_take) f cdv A outer s0 H E).env (cxOf (L2.CX P w) P w K mg base N__law_take "_law_take" (defScope s__law_take) f cdv A outer s0 H E).xe := passes_of (X := cxOf (L2.CX P w) P w K mg base N__law_take "_law_take" (defScope s__law_take) f cdv A outer s0 H E) rfl
  have nd := sc__law_take.nd
  have hu := hr.units
  have hv := room180 hr
  exact mss_cons (ms_if (mt_lt (mv_ix hv (mv_v 1) (mv_int)) (mv_len z_len (ml_cons (mv_v 0) (ml_nil))))
      (mss_cons (ms_asgH (me_of (mv_add (mv_ix hv (mv_v 1) (mv_int)) (mv_int))) (mh_sub 1 hv (mv_int)))
      (mss_one (ms_retP 1 (me_ix hv (mv_v 0) (mv_sub (mv_ix hv (mv_v 1) (mv_int)) (mv_int))))))
      (mss_nil))
      (mss_one (ms_retP 1 (me_of (mv_int))))

theorem ml__law_member : ∀ ds : List D, ds.length = 2 → mi__law_member ds = .no ∨ RunsTo B__law_member N__law_member ds (mi__law_member ds) := fun ds _ => .inr ⟨1000000, rfl⟩

theorem d__law_member {P : Program} {w : World} {K : PySem.W.Frag} {mg : Str → Option Value} {base : Heap} {f : Addr} {fd : FuncData} (F : Fun K "_law_member" "_law_member" s__law_member f fd) (gm : mg "_law_member" = some (.ref f)) (b : Binds K fd ["_law_n", "_law_a"] []) (z_range : mg "range" = none) :
    FnM P w K mg base "_law_member" 1 2 mi__law_member := by
  refine fnm_of (s := B__law_member) F sc__law_member gm b rfl (fun cdv A outer s0 H E hr => ?_) ml__law_member
  have tk : Takes (cxOf (L2.CX P w) P w K mg base N__law_member "_law_member" (defScope s__law_member) f cdv A outer s0 H E) (fun cls d _ H => E cls d H) := takes_of rfl rfl rfl rfl
  have hp : PassesOwn (model P w) (A.deeper (envOfC "_law_member" (defScope s__law_member) s0.heap.objs.size f cdv)) (cxOf (L2.CX P w) P w K mg base N__law_member "_law_member" (defScope s__law_member) f cdv A outer s0 H E).env (cxOf (L2.CX P w) P w K mg base N__law_member "_law_member" (defScope s__law_member) f cdv A outer s0 H E).xe := passes_of (X := cxOf (L2.CX P w) P w K mg base N__law_member "_law_member" (defScope s__law_member) f cdv A outer s0 H E) rfl
  have nd := sc__law_member.nd
  have hu := hr.units
  have hv := room180 hr
  exact mss_cons (ms_set 2 nd (me_of (mv_int)))
      (mss_cons (ms_set 3 nd (me_of (mv_int)))
      (mss_cons (ms_for (s := L1__law_member) hp rfl (mi_range1 z_range (ml_cons (mv_v 0) (ml_nil))) (mg_name 4 nd) (gN_nx)
      (mss_cons (ms_set 5 nd (me_of (mv_sub (mv_mul (mv_mul (mv_int) (mv_v 1)) (mv_v 3)) (mv_v 2))))
      (mss_cons (ms_set 2 nd (me_v 3))
      (mss_one (ms_set 3 nd (me_v 5))))))
      (mss_one (ms_retV 2))))

theorem ml__law_numbers_of : ∀ (ds : List D) (is : List Int), ds.length + 1 = 3 → mi__law_numbers_of ds is = .no ∨ ∃ n, ∀ p, outP p (B__law_numbers_of n (startP (N__law_numbers_of).length ds p is)) = mi__law_numbers_of ds is := fun ds is _ => (comR_or _).imp id fun h => ⟨1000000, h⟩

theorem d__law_numbers_of {P : Program} {w : World} {K : PySem.W.Frag} {mg : Str → Option Value} {base : Heap} {f : Addr} {fd : FuncData} (F : Fun K "_law_numbers_of" "_law_numbers_of" s__law_numbers_of f fd) (gm : mg "_law_numbers_of" = some (.ref f)) (b : Binds K fd ["_law_kind", "_law_numbers_here", "_law_place"] []) (G__law_take : FnP P w K mg base "_law_take" 1 2 mi__law_take) (G__law_member : FnM P w K mg base "_law_member" 1 2 mi__law_member) (z_range : mg "range" = none) :
    FnP P w K mg base "_law_numbers_of" 2 3 mi__law_numbers_of := by
  refine fnp_of (s := B__law_numbers_of) F sc__law_numbers_of gm b rfl (fun cdv A outer s0 H E hr => ?_) ml__law_numbers_of
  have tk : Takes (cxOf (L2.CX P w) P w K mg base N__law_numbers_of "_law_numbers_of" (defScope s__law_numbers_of) f cdv A outer s0 H E) (fun cls d _ H => E cls d H) := takes_of rfl rfl rfl rfl
  have hp : PassesOwn (model P w) (A.deeper (envOfC "_law_numbers_of" (defScope s__law_numbers_of) s0.heap.objs.size f cdv)) (cxOf (L2.CX P w) P w K mg base N__law_numbers_of "_law_numbers_of" (defScope s__law_numbers_of) f cdv A outer s0 H E).env (cxOf (L2.CX P w) P w K mg base N__law_numbers_of "_law_numbers_of" (defScope s__law_numbers_of) f cdv A outer s0 H E).xe := passes_of (X := cxOf (L2.CX P w) P w K mg base N__law_numbers_of "_law_numbers_of" (defScope s__law_numbers_of) f cdv A outer s0 H E) rfl
  have nd := sc__law_numbers_of.nd
  have hu := hr.units
  have hv := room180 hr
  exact mss_cons (ms_setX 3 nd (mx_call G__law_take tk (hr.mono (by decide)) (map_cons (me_v 1) (map_last 2)) rfl (fun ρ ds h => congrArg (· + 1) ((lenA_cons (lenA_nil)) ρ ds h))))
      (mss_cons (ms_setX 4 nd (mx_call G__law_take tk (hr.mono (by decide)) (map_cons (me_v 1) (map_last 2)) rfl (fun ρ ds h => congrArg (· + 1) ((lenA_cons (lenA_nil)) ρ ds h))))
      (mss_cons (ms_setX 5 nd (mx_ix hv (mx_of (me_tup (ma_cons (me_of (mv_int)) (ma_cons (me_of (mv_int)) (ma_cons (me_of (mv_int)) (ma_cons (me_of (mv_int)) (ma_cons (me_of (mv_neg (mv_int))) (ma_cons (me_of (mv_int)) (ma_nil))))))))) (mx_op op_mod (sim_i (fun i j e => of_decide_eq_true e) (hi _)) (mx_call G__law_take tk (hr.mono (by decide)) (map_cons (me_v 1) (map_last 2)) rfl (fun ρ ds h => congrArg (· + 1) ((lenA_cons (lenA_nil)) ρ ds h))) (mx_of (me_of (mv_int))))))
      (mss_cons (ms_if (mt_eq hu (mv_v 0) (mv_int))
      (mss_one (ms_retP 2 (me_lst (ma_cons (me_ix hv (mv_of (me_tup (ma_cons (me_of (mv_int)) (ma_cons (me_of (mv_int)) (ma_cons (me_of (mv_int)) (ma_cons (me_of (mv_neg (mv_int))) (ma_cons (me_v 3) (ma_nil)))))))) (mv_mod (mv_v 4) (mv_int))) (ma_nil)))))
      (mss_nil))
      (mss_cons (ms_if (mt_eq hu (mv_v 0) (mv_int))
      (mss_cons (ms_set 9 nd (me_of (mv_add (mv_mul (mv_v 3) (mv_int)) (mv_v 4))))
      (mss_cons (ms_if (mt_eq hu (mv_mod (mv_v 4) (mv_int)) (mv_int))
      (mss_one (ms_for (s := L1__law_numbers_of) hp rfl (mi_range1 z_range (ml_cons (mv_int) (ml_nil))) (mg_name 12 nd) (gN_nx)
      (mss_one (ms_set 9 nd (me_of (mv_add (mv_add (mv_mul (mv_v 9) (mv_int)) (mv_v 4)) (mv_v 12)))))))
      (mss_nil))
      (mss_cons (ms_setX 10 nd (mx_ix hv (mx_of (me_lst (ma_cons (me_v 9) (ma_cons (me_of (mv_div (mv_v 9) (mv_int))) (ma_cons (me_of (mv_mul (mv_v 3) (mv_int))) (ma_cons (me_of (mv_mod (mv_v 4) (mv_int))) (ma_cons (me_of (mv_neg (mv_int))) (ma_cons (me_of (mv_add (mv_v 9) (mv_int))) (ma_cons (me_of (mv_sub (mv_div (mv_v 9) (mv_int)) (mv_div (mv_v 9) (mv_int)))) (ma_nil)))))))))) (mx_op op_mod (sim_i (fun i j e => of_decide_eq_true e) (hi _)) (mx_call G__law_take tk (hr.mono (by decide)) (map_cons (me_v 1) (map_last 2)) rfl (fun ρ ds h => congrArg (· + 1) ((lenA_cons (lenA_nil)) ρ ds h))) (mx_of (me_of (mv_int))))))
      (mss_one (ms_retP 2 (me_lst (ma_cons (me_v 10) (ma_cons (me_ix hv (mv_of (me_tup (ma_cons (me_v 9) (ma_cons (me_v 9) (ma_cons (me_of (mv_int)) (ma_cons (me_of (mv_neg (mv_int))) (ma_cons (me_of (mv_sub (mv_pow (mv_int) (mv_int)) (mv_int))) (ma_nil)))))))) (mv_mod (mv_div (mv_v 4) (mv_int)) (mv_int))) (ma_nil)))))))))
      (mss_nil))
      (mss_cons (ms_if (mt_eq hu (mv_v 0) (mv_int))
      (mss_cons (ms_set 6 nd (me_ix hv (mv_of (me_tup (ma_cons (me_of (mv_int)) (ma_cons (me_of (mv_int)) (ma_cons (me_of (mv_int)) (ma_cons (me_of (mv_int)) (ma_cons (me_v 3) (ma_cons (me_of (mv_int)) (ma_cons (me_of (mv_neg (mv_int))) (ma_nil)))))))))) (mv_mod (mv_div (mv_v 3) (mv_int)) (mv_int))))
      (mss_cons (ms_set 11 nd (me_ix hv (mv_of (me_tup (ma_cons (me_of (mv_int)) (ma_cons (me_of (mv_int)) (ma_cons (me_of (mv_int)) (ma_cons (me_of (mv_int)) (ma_cons (me_of (mv_mod (mv_v 4) (mv_int))) (ma_cons (me_of (mv_add (mv_int) (mv_mod (mv_v 4) (mv_int)))) (ma_cons (me_of (mv_pow (mv_int) (mv_int))) (ma_cons (me_of (mv_neg (mv_int))) (ma_nil))))))))))) (mv_mod (mv_div (mv_v 4) (mv_int)) (mv_int))))
      (mss_cons (ms_set 8 nd (me_v 3))
      (mss_cons (ms_if (mt_w (mw_and (mt_lt (mv_v 11) (mv_int)) (mw_and1 (mt_ge (mv_v 11) (mv_int)))))
      (mss_cons (ms_set 8 nd (me_of (mv_int)))
      (mss_one (ms_for (s := L2__law_numbers_of) hp rfl (mi_range1 z_range (ml_cons (mv_v 11) (ml_nil))) (mg_name 12 nd) (gN_nx)
      (mss_one (ms_set 8 nd (me_of (mv_mul (mv_v 8) (mv_v 6))))))))
      (mss_nil))
      (mss_one (ms_retP 2 (me_lst (ma_cons (me_of (mv_add (mv_v 8) (mv_v 5))) (ma_cons (me_v 6) (ma_cons (me_v 11) (ma_nil)))))))))))
      (mss_nil))
      (mss_cons (ms_set 6 nd (me_ix hv (mv_of (me_tup (ma_cons (me_of (mv_int)) (ma_cons (me_of (mv_int)) (ma_cons (me_of (mv_int)) (ma_cons (me_v 3) (ma_cons (me_of (mv_int)) (ma_cons (me_of (mv_int)) (ma_nil))))))))) (mv_mod (mv_div (mv_v 3) (mv_int)) (mv_int))))
      (mss_cons (ms_set 7 nd (me_ix hv (mv_of (me_tup (ma_cons (me_of (mv_int)) (ma_cons (me_of (mv_int)) (ma_cons (me_of (mv_int)) (ma_cons (me_of (mv_int)) (ma_cons (me_of (mv_mod (mv_v 4) (mv_int))) (ma_cons (me_of (mv_add (mv_int) (mv_mod (mv_v 4) (mv_int)))) (ma_cons (me_of (mv_pow (mv_int) (mv_int))) (ma_cons (me_of (mv_neg (mv_int))) (ma_nil))))))))))) (mv_mod (mv_div (mv_v 4) (mv_int)) (mv_int))))
      (mss_cons (ms_set 8 nd (me_v 4))
      (mss_cons (ms_if (mt_leLt (mv_int) (mv_v 7) (mv_int))
      (mss_one (ms_set 8 nd (me_call G__law_member tk (hr.mono (by decide)) (ma_cons (me_v 7) (ma_cons (me_v 6) (ma_nil))) rfl (lenA_cons (lenA_cons (lenA_nil))))))
      (mss_nil))
      (mss_one (ms_retP 2 (me_lst (ma_cons (me_of (mv_add (mv_v 8) (mv_v 5))) (ma_cons (me_v 7) (ma_cons (me_v 6) (ma_nil))))))))))))))))

theorem ml_value_of : ∀ ds : List D, ds.length = 2 → mi_value_of ds = .no ∨ RunsTo B_value_of N_value_of ds (mi_value_of ds) := fun ds _ => .inr ⟨1000000, rfl⟩

theorem d_value_of {P : Program} {w : World} {K : PySem.W.Frag} {mg : Str → Option Value} {base : Heap} {f : Addr} {fd : FuncData} (F : Fun K "value_of" "value_of" s_value_of f fd) (gm : mg "value_of" = some (.ref f)) (b : Binds K fd ["polynomial", "values"] []) :
    FnM P w K mg base "value_of" 1 2 mi_value_of := by
  refine fnm_of (s := B_value_of) F sc_value_of gm b rfl (fun cdv A outer s0 H E hr => ?_) ml_value_of
  have tk : Takes (cxOf (L2.CX P w) P w K mg base N_value_of "value_of" (defScope s_value_of) f cdv A outer s0 H E) (fun cls d _ H => E cls d H) := takes_of rfl rfl rfl rfl
  have hp : PassesOwn (model P w) (A.deeper (envOfC "value_of" (defScope s_value_of) s0.heap.objs.size f cdv)) (cxOf (L2.CX P w) P w K mg base N_value_of "value_of" (defScope s_value_of) f cdv A outer s0 H E).env (cxOf (L2.CX P w) P w K mg base N_value_of "value_of" (defScope s_value_of) f cdv A outer s0 H E).xe := passes_of (X := cxOf (L2.CX P w) P w K mg base N_value_of "value_of" (defScope s_value_of) f cdv A outer s0 H E) rfl
  have nd := sc_value_of.nd
  have hu := hr.units
  have hv := room180 hr
  exact mss_cons (ms_set 2 nd (me_of (mv_int)))
      (mss_cons (ms_forK 0 (s := L2_value_of) hp rfl (mg_name 3 nd) (gN_nx)
      (mss_cons (ms_set 4 nd (me_ix hv (mv_v 0) (mv_v 3)))
      (mss_cons (ms_for (s := L1_value_of) hp rfl (mi_seq (me_v 3)) (mg_name 5 nd) (gN_nx)
      (mss_one (ms_aug 4 nd iop_mulM sim_mulM iicD_nx (mv_ix hv (mv_v 1) (mv_v 5)))))
      (mss_one (ms_aug 2 nd iop_add (sim_i0 (hi _)) iiD_nx (mv_v 4))))))
      (mss_one (ms_retV 2)))

theorem ml__is_member : ∀ ds : List D, ds.length = 3 → mi__is_member ds = .no ∨ RunsTo B__is_member N__is_member ds (mi__is_member ds) := fun ds _ => .inr ⟨1000000, rfl⟩

theorem d__is_member {P : Program} {w : World} {K : PySem.W.Frag} {mg : Str → Option Value} {base : Heap} {f : Addr} {fd : FuncData} (F : Fun K "_is_member" "_is_member" s__is_member f fd) (gm : mg "_is_member" = some (.ref f)) (b : Binds K fd ["y", "n", "a"] []) (z_range : mg "range" = none) :
    FnM P w K mg base "_is_member" 1 3 mi__is_member := by
  refine fnm_of (s := B__is_member) F sc__is_member gm b rfl (fun cdv A outer s0 H E hr => ?_) ml__is_member
  have tk : Takes (cxOf (L2.CX P w) P w K mg base N__is_member "_is_member" (defScope s__is_member) f cdv A outer s0 H E) (fun cls d _ H => E cls d H) := takes_of rfl rfl rfl rfl
  have hp : PassesOwn (model P w) (A.deeper (envOfC "_is_member" (defScope s__is_member) s0.heap.objs.size f cdv)) (cxOf (L2.CX P w) P w K mg base N__is_member "_is_member" (defScope s__is_member) f cdv A outer s0 H E).env (cxOf (L2.CX P w) P w K mg base N__is_member "_is_member" (defScope s__is_member) f cdv A outer s0 H E).xe := passes_of (X := cxOf (L2.CX P w) P w K mg base N__is_member "_is_member" (defScope s__is_member) f cdv A outer s0 H E) rfl
  have nd := sc__is_member.nd
  have hu := hr.units
  have hv := room180 hr
  exact mss_cons (ms_if (mt_lt (mv_v 0) (mv_int))
      (mss_one (ms_ret (me_of (mv_bl))))
      (mss_nil))
      (mss_cons (ms_asg (me_tup (ma_cons (me_of (mv_int)) (ma_cons (me_of (mv_int)) (ma_nil)))) (mg_tup rfl (mgs_cons (mg_name 4 nd) (mgs_cons (mg_name 5 nd) (mgs_nil)))))
      (mss_cons (ms_for (s := L1__is_member) hp rfl (mi_rangeB z_range (ml_cons (mv_v 1) (ml_nil))) (mg_name 3 nd) (gN_nx)
      (mss_cons (ms_if (mt_gt (mv_v 4) (mv_v 0))
      (mss_one (ms_ret (me_of (mv_bl))))
      (mss_nil))
      (mss_one (ms_par (i := 4) (j := 5) rfl nd (ma_cons (me_v 5) (ma_cons (me_of (mv_sub (mv_mul (mv_mul (mv_int) (mv_v 2)) (mv_v 5)) (mv_v 4))) (ma_nil)))))))
      (mss_one (ms_ret (me_of (mv_eq hu (mv_v 4) (mv_v 0)))))))

theorem ml__power : ∀ ds : List D, ds.length = 2 → mi__power ds = .no ∨ RunsTo B__power N__power ds (mi__power ds) := fun ds _ => .inr ⟨1000000, rfl⟩

theorem d__power {P : Program} {w : World} {K : PySem.W.Frag} {mg : Str → Option Value} {base : Heap} {f : Addr} {fd : FuncData} (F : Fun K "_power" "_power" s__power f fd) (gm : mg "_power" = some (.ref f)) (b : Binds K fd ["x", "y"] []) :
    FnM P w K mg base "_power" 1 2 mi__power := by
  refine fnm_of (s := B__power) F sc__power gm b rfl (fun cdv A outer s0 H E hr => ?_) ml__power
  have tk : Takes (cxOf (L2.CX P w) P w K mg base N__power "_power" (defScope s__power) f cdv A outer s0 H E) (fun cls d _ H => E cls d H) := takes_of rfl rfl rfl rfl
  have hp : PassesOwn (model P w) (A.deeper (envOfC "_power" (defScope s__power) s0.heap.objs.size f cdv)) (cxOf (L2.CX P w) P w K mg base N__power "_power" (defScope s__power) f cdv A outer s0 H E).env (cxOf (L2.CX P w) P w K mg base N__power "_power" (defScope s__power) f cdv A outer s0 H E).xe := passes_of (X := cxOf (L2.CX P w) P w K mg base N__power "_power" (defScope s__power) f cdv A outer s0 H E) rfl
  have nd := sc__power.nd
  have hu := hr.units
  have hv := room180 hr
  exact mss_cons (ms_set 2 nd (me_of (mv_int)))
      (mss_cons (ms_set 3 nd (me_v 0))
      (mss_cons (ms_while (c := C1__power) (s := L1__power) hp (mt_gt (mv_v 1) (mv_int))
      (mss_cons (ms_if (mt_eq hu (mv_mod (mv_v 1) (mv_int)) (mv_int))
      (mss_one (ms_aug 2 nd iop_mulM sim_mulM iicD_nx (mv_v 3)))
      (mss_nil))
      (mss_cons (ms_aug 3 nd iop_mulM sim_mulM iicD_nx (mv_v 3))
      (mss_one (ms_aug 1 nd iop_fdivM sim_divM iicD_nx (mv_int))))))
      (mss_one (ms_retV 2))))

theorem ml__is_power : ∀ ds : List D, ds.length = 3 → mi__is_power ds = .no ∨ RunsTo B__is_power N__is_power ds (mi__is_power ds) := fun ds _ => .inr ⟨1000000, rfl⟩

theorem d__is_power {P : Program} {w : World} {K : PySem.W.Frag} {mg : Str → Option Value} {base : Heap} {f : Addr} {fd : FuncData} (F : Fun K "_is_power" "_is_power" s__is_power f fd) (gm : mg "_is_power" = some (.ref f)) (b : Binds K fd ["z", "x", "y"] []) (G__power : FnM P w K mg base "_power" 1 2 mi__power) :
    FnM P w K mg base "_is_power" 2 3 mi__is_power := by
  refine fnm_of (s := B__is_power) F sc__is_power gm b rfl (fun cdv A outer s0 H E hr => ?_) ml__is_power
  have tk : Takes (cxOf (L2.CX P w) P w K mg base N__is_power "_is_power" (defScope s__is_power) f cdv A outer s0 H E) (fun cls d _ H => E cls d H) := takes_of rfl rfl rfl rfl
  have hp : PassesOwn (model P w) (A.deeper (envOfC "_is_power" (defScope s__is_power) s0.heap.objs.size f cdv)) (cxOf (L2.CX P w) P w K mg base N__is_power "_is_power" (defScope s__is_power) f cdv A outer s0 H E).env (cxOf (L2.CX P w) P w K mg base N__is_power "_is_power" (defScope s__is_power) f cdv A outer s0 H E).xe := passes_of (X := cxOf (L2.CX P w) P w K mg base N__is_power "_is_power" (defScope s__is_power) f cdv A outer s0 H E) rfl
  have nd := sc__is_power.nd
  have hu := hr.units
  have hv := room180 hr
  exact mss_cons (ms_if (mt_lt (mv_v 0) (mv_int))
      (mss_one (ms_ret (me_of (mv_bl))))
      (mss_nil))
      (mss_cons (ms_if (mt_lt (mv_v 1) (mv_int))
      (mss_one (ms_ret (me_of (mv_eq hu (mv_v 0) (mv_if (mt_w (mw_or (mt_eq hu (mv_v 2) (mv_int)) (mw_or1 (mt_eq hu (mv_v 1) (mv_int))))) (mv_int) (mv_int))))))
      (mss_nil))
      (mss_cons (ms_if (mt_gt (mv_mul (mv_sub (mv_bits (mv_v 1)) (mv_int)) (mv_v 2)) (mv_bits (mv_v 0)))
      (mss_one (ms_ret (me_of (mv_bl))))
      (mss_nil))
      (mss_one (ms_ret (me_of (mv_eq hu (mv_v 0) (mv_of (me_call G__power tk (hr.mono (by decide)) (ma_cons (me_v 1) (ma_cons (me_v 2) (ma_nil))) rfl (lenA_cons (lenA_cons (lenA_nil)))))))))))

theorem ml_holds : ∀ ds : List D, ds.length = 2 → mi_holds ds = .no ∨ RunsTo B_holds N_holds ds (mi_holds ds) := fun ds _ => .inr ⟨1000000, rfl⟩

theorem d_holds {P : Program} {w : World} {K : PySem.W.Frag} {mg : Str → Option Value} {base : Heap} {f : Addr} {fd : FuncData} (F : Fun K "holds" "holds" s_holds f fd) (gm : mg "holds" = some (.ref f)) (b : Binds K fd ["relation", "values"] []) (G_value_of : FnM P w K mg base "value_of" 1 2 mi_value_of) (G__is_power : FnM P w K mg base "_is_power" 2 3 mi__is_power) (G__is_member : FnM P w K mg base "_is_member" 1 3 mi__is_member) (z_min : mg "min" = none) :
    FnM P w K mg base "holds" 3 2 mi_holds := by
  refine fnm_of (s := B_holds) F sc_holds gm b rfl (fun cdv A outer s0 H E hr => ?_) ml_holds
  have tk : Takes (cxOf (L2.CX P w) P w K mg base N_holds "holds" (defScope s_holds) f cdv A outer s0 H E) (fun cls d _ H => E cls d H) := takes_of rfl rfl rfl rfl
  have hp : PassesOwn (model P w) (A.deeper (envOfC "holds" (defScope s_holds) s0.heap.objs.size f cdv)) (cxOf (L2.CX P w) P w K mg base N_holds "holds" (defScope s_holds) f cdv A outer s0 H E).env (cxOf (L2.CX P w) P w K mg base N_holds "holds" (defScope s_holds) f cdv A outer s0 H E).xe := passes_of (X := cxOf (L2.CX P w) P w K mg base N_holds "holds" (defScope s_holds) f cdv A outer s0 H E) rfl
  have nd := sc_holds.nd
  have hu := hr.units
  have hv := room180 hr
  exact mss_cons (ms_setLcF (i := 2) (own := [("polynomial", 3)]) (f := M1_holds) rfl nd (mj_seq (mv_of (me_slice (mv_v 0) (mo_some (mv_int)) (mo_none)))) (blkOk_by (N := N_holds) (sc := defScope s_holds) (by decide +kernel)) (fun _ _ _ _ _ => mg_name 3 nd) (fun _ _ _ _ _ => mts_nil) (fun _ _ _ _ _ => me_call G_value_of takes0 (hr.mono (by decide)) (ma_cons (me_v 3) (ma_cons (me_v 1) (ma_nil))) rfl (lenA_cons (lenA_cons (lenA_nil)))) (sw_true rfl rfl rfl (by decide +kernel)))
      (mss_cons (ms_if (mt_eq hu (mv_ix hv (mv_v 0) (mv_int)) (mv_str))
      (mss_one (ms_ret (me_of (mv_eq hu (mv_ix hv (mv_v 2) (mv_int)) (mv_int)))))
      (mss_nil))
      (mss_cons (ms_if (mt_eq hu (mv_ix hv (mv_v 0) (mv_int)) (mv_str))
      (mss_one (ms_ret (me_of (mv_and (mv_ge (mv_min rfl z_min (ml_cons (mv_v 2) (ml_nil))) (mv_int)) (mv_one (mv_eq hu (mv_and2 (mv_ix hv (mv_v 2) (mv_int)) (mv_ix hv (mv_v 2) (mv_int))) (mv_ix hv (mv_v 2) (mv_int))))))))
      (mss_nil))
      (mss_cons (ms_if (mt_eq hu (mv_ix hv (mv_v 0) (mv_int)) (mv_str))
      (mss_one (ms_ret (me_of (mv_and (mv_ge (mv_ix hv (mv_v 2) (mv_int)) (mv_int)) (mv_and (mv_ge (mv_ix hv (mv_v 2) (mv_int)) (mv_int)) (mv_one (mv_of (me_call G__is_power tk (hr.mono (by decide)) (ma_cons (me_ix hv (mv_v 2) (mv_int)) (ma_cons (me_ix hv (mv_v 2) (mv_int)) (ma_cons (me_ix hv (mv_v 2) (mv_int)) (ma_nil)))) rfl (lenA_cons (lenA_cons (lenA_cons (lenA_nil))))))))))))
      (mss_nil))
      (mss_one (ms_ret (me_of (mv_and (mv_ge (mv_ix hv (mv_v 2) (mv_int)) (mv_int)) (mv_and (mv_ge (mv_ix hv (mv_v 2) (mv_int)) (mv_int)) (mv_one (mv_of (me_call G__is_member tk (hr.mono (by decide)) (ma_cons (me_ix hv (mv_v 2) (mv_int)) (ma_cons (me_ix hv (mv_v 2) (mv_int)) (ma_cons (me_ix hv (mv_v 2) (mv_int)) (ma_nil)))) rfl (lenA_cons (lenA_cons (lenA_cons (lenA_nil)))))))))))))))

theorem ml_row_member : ∀ ds : List D, ds.length = 2 → mi_row_member ds = .no ∨ RunsTo B_row_member N_row_member ds (mi_row_member ds) := fun ds _ => .inr ⟨1000000, rfl⟩

theorem d_row_member {P : Program} {w : World} {K : PySem.W.Frag} {mg : Str → Option Value} {base : Heap} {f : Addr} {fd : FuncData} (F : Fun K "row_member" "row_member" s_row_member f fd) (gm : mg "row_member" = some (.ref f)) (b : Binds K fd ["n", "a"] []) (z_range : mg "range" = none) :
    FnM P w K mg base "row_member" 1 2 mi_row_member := by
  refine fnm_of (s := B_row_member) F sc_row_member gm b rfl (fun cdv A outer s0 H E hr => ?_) ml_row_member
  have tk : Takes (cxOf (L2.CX P w) P w K mg base N_row_member "row_member" (defScope s_row_member) f cdv A outer s0 H E) (fun cls d _ H => E cls d H) := takes_of rfl rfl rfl rfl
  have hp : PassesOwn (model P w) (A.deeper (envOfC "row_member" (defScope s_row_member) s0.heap.objs.size f cdv)) (cxOf (L2.CX P w) P w K mg base N_row_member "row_member" (defScope s_row_member) f cdv A outer s0 H E).env (cxOf (L2.CX P w) P w K mg base N_row_member "row_member" (defScope s_row_member) f cdv A outer s0 H E).xe := passes_of (X := cxOf (L2.CX P w) P w K mg base N_row_member "row_member" (defScope s_row_member) f cdv A outer s0 H E) rfl
  have nd := sc_row_member.nd
  have hu := hr.units
  have hv := room180 hr
  exact mss_cons (ms_asg (me_tup (ma_cons (me_of (mv_int)) (ma_cons (me_of (mv_int)) (ma_nil)))) (mg_tup rfl (mgs_cons (mg_name 3 nd) (mgs_cons (mg_name 4 nd) (mgs_nil)))))
      (mss_cons (ms_for (s := L1_row_member) hp rfl (mi_range1 z_range (ml_cons (mv_v 0) (ml_nil))) (mg_name 2 nd) (gN_nx)
      (mss_one (ms_par (i := 3) (j := 4) rfl nd (ma_cons (me_v 4) (ma_cons (me_of (mv_sub (mv_mul (mv_mul (mv_int) (mv_v 1)) (mv_v 4)) (mv_v 3))) (ma_nil))))))
      (mss_one (ms_retV 3)))

theorem ml__law_clean : ∀ ds : List D, ds.length = 1 → mi__law_clean ds = .no ∨ RunsTo B__law_clean N__law_clean ds (mi__law_clean ds) := fun ds _ => .inr ⟨1000000, rfl⟩

theorem d__law_clean {P : Program} {w : World} {K : PySem.W.Frag} {mg : Str → Option Value} {base : Heap} {f : Addr} {fd : FuncData} (F : Fun K "_law_clean" "_law_clean" s__law_clean f fd) (gm : mg "_law_clean" = some (.ref f)) (b : Binds K fd ["_law_poly_here"] []) :
    FnM P w K mg base "_law_clean" 1 1 mi__law_clean := by
  refine fnm_of (s := B__law_clean) F sc__law_clean gm b rfl (fun cdv A outer s0 H E hr => ?_) ml__law_clean
  have tk : Takes (cxOf (L2.CX P w) P w K mg base N__law_clean "_law_clean" (defScope s__law_clean) f cdv A outer s0 H E) (fun cls d _ H => E cls d H) := takes_of rfl rfl rfl rfl
  have hp : PassesOwn (model P w) (A.deeper (envOfC "_law_clean" (defScope s__law_clean) s0.heap.objs.size f cdv)) (cxOf (L2.CX P w) P w K mg base N__law_clean "_law_clean" (defScope s__law_clean) f cdv A outer s0 H E).env (cxOf (L2.CX P w) P w K mg base N__law_clean "_law_clean" (defScope s__law_clean) f cdv A outer s0 H E).xe := passes_of (X := cxOf (L2.CX P w) P w K mg base N__law_clean "_law_clean" (defScope s__law_clean) f cdv A outer s0 H E) rfl
  have nd := sc__law_clean.nd
  have hu := hr.units
  have hv := room180 hr
  exact mss_cons (ms_own 1 nd (me_d0T))
      (mss_cons (ms_forK 0 (s := L1__law_clean) hp rfl (mg_name 2 nd) (gN_nx)
      (mss_one (ms_if (mt_ne hu (mv_ix hv (mv_v 0) (mv_v 2)) (mv_int))
      (mss_one (ms_asgH (me_ix hv (mv_v 0) (mv_v 2)) (mh_sub 1 hv (mv_v 2))))
      (mss_nil))))
      (mss_one (ms_retV 1)))

theorem ml__law_given : ∀ ds : List D, ds.length = 2 → mi__law_given ds = .no ∨ RunsTo B__law_given N__law_given ds (mi__law_given ds) := fun ds _ => .inr ⟨1000000, rfl⟩

theorem d__law_given {P : Program} {w : World} {K : PySem.W.Frag} {mg : Str → Option Value} {base : Heap} {f : Addr} {fd : FuncData} (F : Fun K "_law_given" "_law_given" s__law_given f fd) (gm : mg "_law_given" = some (.ref f)) (b : Binds K fd ["_law_value_here", "_law_number"] []) (G__law_clean : FnM P w K mg base "_law_clean" 1 1 mi__law_clean) :
    FnM P w K mg base "_law_given" 2 2 mi__law_given := by
  refine fnm_of (s := B__law_given) F sc__law_given gm b rfl (fun cdv A outer s0 H E hr => ?_) ml__law_given
  have tk : Takes (cxOf (L2.CX P w) P w K mg base N__law_given "_law_given" (defScope s__law_given) f cdv A outer s0 H E) (fun cls d _ H => E cls d H) := takes_of rfl rfl rfl rfl
  have hp : PassesOwn (model P w) (A.deeper (envOfC "_law_given" (defScope s__law_given) s0.heap.objs.size f cdv)) (cxOf (L2.CX P w) P w K mg base N__law_given "_law_given" (defScope s__law_given) f cdv A outer s0 H E).env (cxOf (L2.CX P w) P w K mg base N__law_given "_law_given" (defScope s__law_given) f cdv A outer s0 H E).xe := passes_of (X := cxOf (L2.CX P w) P w K mg base N__law_given "_law_given" (defScope s__law_given) f cdv A outer s0 H E) rfl
  have nd := sc__law_given.nd
  have hu := hr.units
  have hv := room180 hr
  exact mss_cons (ms_if (mt_eq hu (mv_mod (mv_v 1) (mv_int)) (mv_int))
      (mss_one (ms_ret (me_tup (ma_cons (me_call G__law_clean tk (hr.mono (by decide)) (ma_cons (me_dispT hv (mpt_cons (me_tup (ma_nil)) (me_v 0) (mpt_nil))) (ma_nil)) rfl (lenA_cons (lenA_nil))) (ma_cons (me_d0K) (ma_nil))))))
      (mss_nil))
      (mss_cons (ms_if (mt_w (mw_and (mt_eq hu (mv_mod (mv_v 1) (mv_int)) (mv_int)) (mw_and1 (mt_ge (mv_v 0) (mv_int)))))
      (mss_one (ms_ret (me_tup (ma_cons (me_dispT hv (mpt_cons (me_tup (ma_cons (me_of (mv_str)) (ma_nil))) (me_of (mv_int)) (mpt_nil))) (ma_cons (me_disp (mps_cons (mv_str) (me_v 0) (mps_nil))) (ma_nil))))))
      (mss_nil))
      (mss_one (ms_ret (me_tup (ma_cons (me_call G__law_clean tk (hr.mono (by decide)) (ma_cons (me_dispT hv (mpt_cons (me_tup (ma_cons (me_of (mv_str)) (ma_nil))) (me_of (mv_int)) (mpt_cons (me_tup (ma_nil)) (me_of (mv_sub (mv_v 0) (mv_int))) (mpt_nil)))) (ma_nil)) rfl (lenA_cons (lenA_nil))) (ma_cons (me_disp (mps_cons (mv_str) (me_of (mv_int)) (mps_nil))) (ma_nil)))))))

theorem ml__law_under : ∀ ds : List D, ds.length = 2 → mi__law_under_2 ds = .no ∨ RunsTo B__law_under_2 N__law_under ds (mi__law_under_2 ds) := fun ds _ => .inr ⟨1000000, rfl⟩

theorem d__law_under {P : Program} {w : World} {K : PySem.W.Frag} {mg : Str → Option Value} {base : Heap} {f : Addr} {fd : FuncData} (F : Fun K "_law_under" "_law_under" s__law_under f fd) (gm : mg "_law_under" = some (.ref f)) (b : Binds K fd ["_law_a", "_law_b"] []) (z_range : mg "range" = none) :
    FnM P w K mg base "_law_under" 1 2 mi__law_under_2 := by
  refine fnm_of (s := B__law_under_2) F sc__law_under gm b rfl (fun cdv A outer s0 H E hr => ?_) ml__law_under
  have tk : Takes (cxOf (L2.CX P w) P w K mg base N__law_under "_law_under" (defScope s__law_under) f cdv A outer s0 H E) (fun cls d _ H => E cls d H) := takes_of rfl rfl rfl rfl
  have hp : PassesOwn (model P w) (A.deeper (envOfC "_law_under" (defScope s__law_under) s0.heap.objs.size f cdv)) (cxOf (L2.CX P w) P w K mg base N__law_under "_law_under" (defScope s__law_under) f cdv A outer s0 H E).env (cxOf (L2.CX P w) P w K mg base N__law_under "_law_under" (defScope s__law_under) f cdv A outer s0 H E).xe := passes_of (X := cxOf (L2.CX P w) P w K mg base N__law_under "_law_under" (defScope s__law_under) f cdv A outer s0 H E) rfl
  have nd := sc__law_under.nd
  have hu := hr.units
  have hv := room180 hr
  exact mss_cons (ms_if (mt_w (mw_or (mt_lt (mv_v 0) (mv_int)) (mw_or1 (mt_lt (mv_v 1) (mv_int)))))
      (mss_one (ms_ret (me_of (mv_bl))))
      (mss_nil))
      (mss_cons (ms_for (s := L1__law_under_2) hp rfl (mi_range1 z_range (ml_cons (mv_int) (ml_nil))) (mg_name 2 nd) (gN_nx)
      (mss_cons (ms_if (mt_gt (mv_mod (mv_v 0) (mv_int)) (mv_mod (mv_v 1) (mv_int)))
      (mss_one (ms_ret (me_of (mv_bl))))
      (mss_nil))
      (mss_cons (ms_set 0 nd (me_of (mv_div (mv_v 0) (mv_int))))
      (mss_cons (ms_set 1 nd (me_of (mv_div (mv_v 1) (mv_int))))
      (mss_one (ms_if (mt_eq hu (mv_v 0) (mv_int))
      (mss_one (ms_ret (me_of (mv_bl))))
      (mss_nil)))))))
      (mss_one (ms_ret (me_of (mv_le (mv_v 0) (mv_v 1))))))

theorem ml__law_told : ∀ ds : List D, ds.length = 2 → mi__law_told ds = .no ∨ RunsTo B__law_told N__law_told ds (mi__law_told ds) := fun ds _ => .inr ⟨1000000, rfl⟩

theorem d__law_told {P : Program} {w : World} {K : PySem.W.Frag} {mg : Str → Option Value} {base : Heap} {f : Addr} {fd : FuncData} (F : Fun K "_law_told" "_law_told" s__law_told f fd) (gm : mg "_law_told" = some (.ref f)) (b : Binds K fd ["_law_kind", "_law_values_here"] []) (G__law_under : FnM P w K mg base "_law_under" 1 2 mi__law_under_2) (G__law_member : FnM P w K mg base "_law_member" 1 2 mi__law_member) (z_range : mg "range" = none) :
    FnM P w K mg base "_law_told" 2 2 mi__law_told := by
  refine fnm_of (s := B__law_told) F sc__law_told gm b rfl (fun cdv A outer s0 H E hr => ?_) ml__law_told
  have tk : Takes (cxOf (L2.CX P w) P w K mg base N__law_told "_law_told" (defScope s__law_told) f cdv A outer s0 H E) (fun cls d _ H => E cls d H) := takes_of rfl rfl rfl rfl
  have hp : PassesOwn (model P w) (A.deeper (envOfC "_law_told" (defScope s__law_told) s0.heap.objs.size f cdv)) (cxOf (L2.CX P w) P w K mg base N__law_told "_law_told" (defScope s__law_told) f cdv A outer s0 H E).env (cxOf (L2.CX P w) P w K mg base N__law_told "_law_told" (defScope s__law_told) f cdv A outer s0 H E).xe := passes_of (X := cxOf (L2.CX P w) P w K mg base N__law_told "_law_told" (defScope s__law_told) f cdv A outer s0 H E) rfl
  have nd := sc__law_told.nd
  have hu := hr.units
  have hv := room180 hr
  exact mss_cons (ms_if (mt_eq hu (mv_v 0) (mv_int))
      (mss_one (ms_ret (me_of (mv_eq hu (mv_ix hv (mv_v 1) (mv_int)) (mv_int)))))
      (mss_nil))
      (mss_cons (ms_if (mt_eq hu (mv_v 0) (mv_int))
      (mss_one (ms_ret (me_call G__law_under tk (hr.mono (by decide)) (ma_cons (me_ix hv (mv_v 1) (mv_int)) (ma_cons (me_ix hv (mv_v 1) (mv_int)) (ma_nil))) rfl (lenA_cons (lenA_cons (lenA_nil))))))
      (mss_nil))
      (mss_cons (ms_if (mt_eq hu (mv_v 0) (mv_int))
      (mss_cons (ms_if (mt_w (mw_or (mt_lt (mv_ix hv (mv_v 1) (mv_int)) (mv_int)) (mw_or1 (mt_lt (mv_ix hv (mv_v 1) (mv_int)) (mv_int)))))
      (mss_one (ms_ret (me_of (mv_bl))))
      (mss_nil))
      (mss_cons (ms_if (mt_gt (mv_ix hv (mv_v 1) (mv_int)) (mv_int))
      (mss_one (ms_ret (me_of (mv_and (mv_lt (mv_ix hv (mv_v 1) (mv_int)) (mv_int)) (mv_one (mv_eq hu (mv_ix hv (mv_v 1) (mv_int)) (mv_ix hv (mv_v 1) (mv_int))))))))
      (mss_nil))
      (mss_cons (ms_set 2 nd (me_of (mv_int)))
      (mss_cons (ms_for (s := L1__law_told) hp rfl (mi_range1 z_range (ml_cons (mv_ix hv (mv_v 1) (mv_int)) (ml_nil))) (mg_name 3 nd) (gN_nx)
      (mss_one (ms_set 2 nd (me_of (mv_mul (mv_v 2) (mv_ix hv (mv_v 1) (mv_int)))))))
      (mss_one (ms_ret (me_of (mv_eq hu (mv_ix hv (mv_v 1) (mv_int)) (mv_v 2)))))))))
      (mss_nil))
      (mss_cons (ms_if (mt_w (mw_or (mt_lt (mv_ix hv (mv_v 1) (mv_int)) (mv_int)) (mw_or1 (mt_lt (mv_ix hv (mv_v 1) (mv_int)) (mv_int)))))
      (mss_one (ms_ret (me_of (mv_bl))))
      (mss_nil))
      (mss_one (ms_ret (me_of (mv_and (mv_lt (mv_ix hv (mv_v 1) (mv_int)) (mv_int)) (mv_one (mv_eq hu (mv_ix hv (mv_v 1) (mv_int)) (mv_of (me_call G__law_member tk (hr.mono (by decide)) (ma_cons (me_ix hv (mv_v 1) (mv_int)) (ma_cons (me_ix hv (mv_v 1) (mv_int)) (ma_nil))) rfl (lenA_cons (lenA_cons (lenA_nil))))))))))))))

noncomputable def L1_law : Sem :=
  sIf (toT (op2 eqD (rdV 11) (op2 modD (rdV 8) (opL lenD (consA (rdV 7) (nilA))))))
  (sSeq (sSet 14 (callF mi__law_given (consA (toV (ixF (rdV 7) (rdV 11))) (consA (toV (toF (op2 divD (rdV 8) (cV (.int 4))))) (nilA)))))
  (sSeq (sApp 9 (ixF (rdV 14) (cV (.int 0))))
  (sSet 10 (ixF (rdV 14) (cV (.int 1))))))
  (sApp 9 (callF mi__law_clean (consA (toV (dspT (consT (tupF (nilA)) (ixF (rdV 7) (rdV 11)) (nilT)))) (nilA))))
noncomputable def L2_law : Sem :=
  sSeq (sSetX 6 (op2X modD (callP 2 mi__law_take (consA (toV (rdF 1)) (nilA))) (xOf (toF (cV (.int 4))))))
  (sSeq (sSetX 7 (callP 2 mi__law_numbers_of (consA (toV (rdF 6)) (consA (toV (rdF 1)) (nilA)))))
  (sSeq (sSetX 8 (callP 2 mi__law_take (consA (toV (rdF 1)) (nilA))))
  (sSeq (sOwn 9 (lstF (nilA)))
  (sSeq (sSet 10 (fun _ => .ok (.ow (.dk [] []))))
  (sSeq (sFor (rng1 (consA (opL lenD (consA (rdV 7) (nilA))) (nilA))) (gN 11) L1_law)
  (sSeq (sSet 12 (op2S catD (toV (tupF (consA (toV (ixF (toV (tupF (consA (toV (toF (cV (.str "zero")))) (consA (toV (toF (cV (.str "under")))) (consA (toV (toF (cV (.str "power")))) (consA (toV (toF (cV (.str "row")))) (nilA))))))) (rdV 6))) (nilA)))) (toV (opLS tupleD (consA (rdV 9) (nilA))))))
  (sSeq (sSet 13 (callF mi_holds (consA (toV (rdF 12)) (consA (toV (rdF 10)) (nilA)))))
  (sIf (orT (notT (toT (op1 (isT "bool") (rdV 13)))) (toT (op2 neD (rdV 13) (toV (callF mi__law_told (consA (toV (rdF 6)) (consA (toV (rdF 7)) (nilA))))))))
  (sRet (toF (cV (.bl false))))
  (sNil)))))))))
noncomputable def B_law : Sem :=
  sSeq (sSet 1 (callF mi__law_numbers (consA (toV (rdF 0)) (consA (toV (toF (cV (.int 24)))) (nilA)))))
  (sSeq (sOwn 2 (lstF (consA (toV (toF (cV (.int 0)))) (nilA))))
  (sSeq (sFor (rng1 (consA (cV (.int 2)) (nilA))) (gN 3) L2_law)
  (sSeq (sSetX 4 (op2X modD (callP 2 mi__law_take (consA (toV (rdF 1)) (nilA))) (xOf (toF (cV (.int 20))))))
  (sSeq (sSetX 5 (op2X addD (xOf (toF (cV (.int 2)))) (op2X modD (callP 2 mi__law_take (consA (toV (rdF 1)) (nilA))) (xOf (toF (cV (.int 50)))))))
  (sRet (toF (op2 eqD (toV (callF mi_row_member (consA (toV (rdF 4)) (consA (toV (rdF 5)) (nilA))))) (toV (callF mi__law_member (consA (toV (rdF 4)) (consA (toV (rdF 5)) (nilA))))))))))))
noncomputable def mi_law : List D → R Sl := fun ds => outR (B_law 1000000 (startN 15 ds))
theorem ml_law : ∀ ds : List D, ds.length = 1 → mi_law ds = .no ∨ RunsTo B_law N_law ds (mi_law ds) := fun ds _ => .inr ⟨1000000, rfl⟩

theorem d_law {P : Program} {w : World} {K : PySem.W.Frag} {mg : Str → Option Value} {base : Heap} {f : Addr} {fd : FuncData} (F : Fun K "law" "law" s_law f fd) (gm : mg "law" = some (.ref f)) (b : Binds K fd ["_law_script"] []) (G__law_numbers : FnM P w K mg base "_law_numbers" 1 2 mi__law_numbers) (G__law_take : FnP P w K mg base "_law_take" 1 2 mi__law_take) (G__law_numbers_of : FnP P w K mg base "_law_numbers_of" 2 3 mi__law_numbers_of) (G__law_given : FnM P w K mg base "_law_given" 2 2 mi__law_given) (G__law_clean : FnM P w K mg base "_law_clean" 1 1 mi__law_clean) (G_holds : FnM P w K mg base "holds" 3 2 mi_holds) (G__law_told : FnM P w K mg base "_law_told" 2 2 mi__law_told) (G_row_member : FnM P w K mg base "row_member" 1 2 mi_row_member) (G__law_member : FnM P w K mg base "_law_member" 1 2 mi__law_member) (z_range : mg "range" = none) (z_len : mg "len" = none) (z_tuple : mg "tuple" = none) (z_isinstance : mg "isinstance" = none) (z_bool : mg "bool" = none) :
    FnOk P w K mg base (L2.CX P w) 4 f fd ["_law_script"] (SpM K mg 1 mi_law) := by
  refine fnok_of (s := B_law) F sc_law rfl (fun cdv A outer s0 H E hr => ?_) ml_law
  have tk : Takes (cxOf (L2.CX P w) P w K mg base N_law "law" (defScope s_law) f cdv A outer s0 H E) (fun cls d _ H => E cls d H) := takes_of rfl rfl rfl rfl
  have hp : PassesOwn (model P w) (A.deeper (envOfC "law" (defScope s_law) s0.heap.objs.size f cdv)) (cxOf (L2.CX P w) P w K mg base N_law "law" (defScope s_law) f cdv A outer s0 H E).env (cxOf (L2.CX P w) P w K mg base N_law "law" (defScope s_law) f cdv A outer s0 H E).xe := passes_of (X := cxOf (L2.CX P w) P w K mg base N_law "law" (defScope s_law) f cdv A outer s0 H E) rfl
  have nd := sc_law.nd
  have hu := hr.units
  have hv := room180 hr
  exact mss_cons (ms_set 1 nd (me_call G__law_numbers tk (hr.mono (by decide)) (ma_cons (me_v 0) (ma_cons (me_of (mv_int)) (ma_nil))) rfl (lenA_cons (lenA_cons (lenA_nil)))))
      (mss_cons (ms_own 2 nd (me_lst (ma_cons (me_of (mv_int)) (ma_nil))))
      (mss_cons (ms_for (s := L2_law) hp rfl (mi_range1 z_range (ml_cons (mv_int) (ml_nil))) (mg_name 3 nd) (gN_nx)
      (mss_cons (ms_setX 6 nd (mx_op op_mod (sim_i (fun i j e => of_decide_eq_true e) (hi _)) (mx_call G__law_take tk (hr.mono (by decide)) (map_cons (me_v 1) (map_last 2)) rfl (fun ρ ds h => congrArg (· + 1) ((lenA_cons (lenA_nil)) ρ ds h))) (mx_of (me_of (mv_int)))))
      (mss_cons (ms_setX 7 nd (mx_call G__law_numbers_of tk (hr.mono (by decide)) (map_cons (me_v 6) (map_cons (me_v 1) (map_last 2))) rfl (fun ρ ds h => congrArg (· + 1) ((lenA_cons (lenA_cons (lenA_nil))) ρ ds h))))
      (mss_cons (ms_setX 8 nd (mx_call G__law_take tk (hr.mono (by decide)) (map_cons (me_v 1) (map_last 2)) rfl (fun ρ ds h => congrArg (· + 1) ((lenA_cons (lenA_nil)) ρ ds h))))
      (mss_cons (ms_own 9 nd (me_lst (ma_nil)))
      (mss_cons (ms_set 10 nd (me_d0K))
      (mss_cons (ms_for (s := L1_law) hp rfl (mi_range1 z_range (ml_cons (mv_len z_len (ml_cons (mv_v 7) (ml_nil))) (ml_nil))) (mg_name 11 nd) (gN_nx)
      (mss_one (ms_if (mt_eq hu (mv_v 11) (mv_mod (mv_v 8) (mv_len z_len (ml_cons (mv_v 7) (ml_nil)))))
      (mss_cons (ms_set 14 nd (me_call G__law_given tk (hr.mono (by decide)) (ma_cons (me_ix hv (mv_v 7) (mv_v 11)) (ma_cons (me_of (mv_div (mv_v 8) (mv_int))) (ma_nil))) rfl (lenA_cons (lenA_cons (lenA_nil)))))
      (mss_cons (ms_app 9 (me_ix hv (mv_v 14) (mv_int)))
      (mss_one (ms_set 10 nd (me_ix hv (mv_v 14) (mv_int))))))
      (mss_one (ms_app 9 (me_call G__law_clean tk (hr.mono (by decide)) (ma_cons (me_dispT hv (mpt_cons (me_tup (ma_nil)) (me_ix hv (mv_v 7) (mv_v 11)) (mpt_nil))) (ma_nil)) rfl (lenA_cons (lenA_nil))))))))
      (mss_cons (ms_set 12 nd (me_cat (mv_of (me_tup (ma_cons (me_ix hv (mv_of (me_tup (ma_cons (me_of (mv_str)) (ma_cons (me_of (mv_str)) (ma_cons (me_of (mv_str)) (ma_cons (me_of (mv_str)) (ma_nil))))))) (mv_v 6)) (ma_nil)))) (mv_of (me_tuplec z_tuple (ml_cons (mv_v 9) (ml_nil))))))
      (mss_cons (ms_set 13 nd (me_call G_holds tk (hr.mono (by decide)) (ma_cons (me_v 12) (ma_cons (me_v 10) (ma_nil))) rfl (lenA_cons (lenA_cons (lenA_nil)))))
      (mss_one (ms_if (mt_w (mw_or (mt_not (mt_val ((mv_isi (T := "bool") z_isinstance z_bool (mv_v 13) (by decide +kernel))))) (mw_or1 (mt_ne hu (mv_v 13) (mv_of (me_call G__law_told tk (hr.mono (by decide)) (ma_cons (me_v 6) (ma_cons (me_v 7) (ma_nil))) rfl (lenA_cons (lenA_cons (lenA_nil)))))))))
      (mss_one (ms_ret (me_of (mv_bl))))
      (mss_nil))))))))))))
      (mss_cons (ms_setX 4 nd (mx_op op_mod (sim_i (fun i j e => of_decide_eq_true e) (hi _)) (mx_call G__law_take tk (hr.mono (by decide)) (map_cons (me_v 1) (map_last 2)) rfl (fun ρ ds h => congrArg (· + 1) ((lenA_cons (lenA_nil)) ρ ds h))) (mx_of (me_of (mv_int)))))
      (mss_cons (ms_setX 5 nd (mx_op (op_add.or op_add_str) sim_add (mx_of (me_of (mv_int))) (mx_op op_mod (sim_i (fun i j e => of_decide_eq_true e) (hi _)) (mx_call G__law_take tk (hr.mono (by decide)) (map_cons (me_v 1) (map_last 2)) rfl (fun ρ ds h => congrArg (· + 1) ((lenA_cons (lenA_nil)) ρ ds h))) (mx_of (me_of (mv_int))))))
      (mss_one (ms_ret (me_of (mv_eq hu (mv_of (me_call G_row_member tk (hr.mono (by decide)) (ma_cons (me_v 4) (ma_cons (me_v 5) (ma_nil))) rfl (lenA_cons (lenA_cons (lenA_nil))))) (mv_of (me_call G__law_member tk (hr.mono (by decide)) (ma_cons (me_v 4) (ma_cons (me_v 5) (ma_nil))) rfl (lenA_cons (lenA_cons (lenA_nil)))))))))))))

end K03

/-! ### pairs: the plain law of x * x - (a * a - 1) * y * y = 1 -/
namespace PM
def P (a : Int) : Nat → Int × Int
  | 0 => (1, 0)
  | n + 1 => ((P a n).1 * a + (a * a - 1) * (P a n).2, (P a n).1 + (P a n).2 * a)
abbrev X (a : Int) (n : Nat) : Int := (P a n).1
abbrev Y (a : Int) (n : Nat) : Int := (P a n).2
theorem X_succ (a : Int) (n : Nat) : X a (n + 1) = X a n * a + (a * a - 1) * Y a n := rfl
theorem Y_succ (a : Int) (n : Nat) : Y a (n + 1) = X a n + Y a n * a := rfl
theorem norm (a : Int) : ∀ n, X a n * X a n - (a * a - 1) * Y a n * Y a n = 1
  | 0 => by simp [X, Y, P]
  | n + 1 => by
    have ih := norm a n
    rw [X_succ, Y_succ]
    generalize X a n = x at *
    generalize Y a n = y at *
    grind
theorem X_rec (a : Int) (n : Nat) : X a (n + 2) = 2 * a * X a (n + 1) - X a n := by
  rw [X_succ a (n + 1), X_succ, Y_succ]
  grind
theorem Y_rec (a : Int) (n : Nat) : Y a (n + 2) = 2 * a * Y a (n + 1) - Y a n := by
  rw [Y_succ a (n + 1), X_succ, Y_succ]
  grind
theorem add (a : Int) (m : Nat) : ∀ n, X a (m + n) = X a m * X a n + (a * a - 1) * Y a m * Y a n ∧ Y a (m + n) = X a m * Y a n + Y a m * X a n
  | 0 => by simp [X, Y, P]
  | n + 1 => by
    have ih := add a m n
    rw [← Nat.add_assoc, X_succ a (m + n), Y_succ a (m + n), X_succ a n, Y_succ a n, ih.1, ih.2]
    constructor <;> grind
theorem sub (a : Int) (k n : Nat) : X a (k + n) * X a n - (a * a - 1) * Y a (k + n) * Y a n = X a k ∧ Y a (k + n) * X a n - X a (k + n) * Y a n = Y a k := by
  have h := add a k n
  have hn := norm a n
  rw [h.1, h.2]
  generalize X a k = x at *
  generalize Y a k = y at *
  generalize X a n = u at *
  generalize Y a n = v at *
  constructor <;> grind
theorem pos {a : Int} (ha : 2 ≤ a) : ∀ n, 1 ≤ X a n ∧ 0 ≤ Y a n ∧ Y a n < X a n
  | 0 => by simp [X, Y, P]
  | n + 1 => by
    obtain ⟨h1, h2, h3⟩ := pos ha n
    rw [X_succ, Y_succ]
    generalize X a n = x at *
    generalize Y a n = y at *
    have e1 : 0 ≤ y * a := Int.mul_nonneg h2 (by omega)
    have e2 : 2 * x ≤ x * a := by rw [Int.mul_comm]; exact Int.mul_le_mul_of_nonneg_left ha (by omega)
    have e3 : y * 2 ≤ y * a := Int.mul_le_mul_of_nonneg_left ha h2
    have e4 : a * a - 1 ≥ a + 1 := by
      have : 2 * a ≤ a * a := Int.mul_le_mul_of_nonneg_right ha (by omega)
      omega
    have e5 : (a + 1) * y ≤ (a * a - 1) * y := Int.mul_le_mul_of_nonneg_right e4 h2
    have e6 : (a + 1) * y = y * a + y := by rw [Int.add_mul, Int.mul_comm a y, Int.one_mul]
    omega
theorem Y_lt {a : Int} (ha : 2 ≤ a) (n : Nat) : Y a n < Y a (n + 1) := by
  obtain ⟨h1, h2, h3⟩ := pos ha n
  rw [Y_succ]
  generalize X a n = x at *
  generalize Y a n = y at *
  have e3 : y * 2 ≤ y * a := Int.mul_le_mul_of_nonneg_left ha h2
  omega
theorem Y_ge {a : Int} (ha : 2 ≤ a) : ∀ n : Nat, (n : Int) ≤ Y a n
  | 0 => by simp [Y, P]
  | n + 1 => by
    have := Y_ge ha n
    have := Y_lt ha n
    omega
theorem Y_mono {a : Int} (ha : 2 ≤ a) {m n : Nat} (h : m < n) : Y a m < Y a n := by
  induction n with
  | zero => omega
  | succ n ih =>
    have := Y_lt ha n
    by_cases e : m = n
    · subst e; exact this
    · exact Int.lt_trans (ih (by omega)) this
theorem X_le {a : Int} (ha : 2 ≤ a) : ∀ n : Nat, X a n ≤ (2 * a) ^ n
  | 0 => by simp [X, P]
  | n + 1 => by
    have ih := X_le ha n
    obtain ⟨h1, h2, h3⟩ := pos ha n
    have hr : X a (n + 1) ≤ 2 * a * X a n := by
      cases n with
      | zero => simp [X, P]; omega
      | succ n =>
        rw [X_rec]
        have := (pos ha n).1
        omega
    rw [Int.pow_succ, Int.mul_comm]
    refine Int.le_trans hr ?_
    exact Int.mul_le_mul_of_nonneg_left ih (by omega)
/-- the bound that the walk needs: all in 2 ^ (k * n) -/
theorem bnd {a : Int} {k : Nat} (ha : 2 ≤ a) (hk : 2 * a ≤ 2 ^ k) (n : Nat) : X a n ≤ 2 ^ (k * n) ∧ Y a n ≤ 2 ^ (k * n) := by
  have h1 := X_le ha n
  have h2 := (pos ha n).2.2
  have h3 : (2 * a) ^ n ≤ (2 ^ k) ^ n := by
    clear h1 h2
    induction n with
    | zero => simp
    | succ n ih =>
      rw [Int.pow_succ, Int.pow_succ]
      exact Int.mul_le_mul ih hk (by omega) (Int.pow_nonneg (Int.pow_nonneg (by decide)))
  rw [← Int.pow_mul] at h3
  omega
end PM

namespace RL
open PySem PySem.Spec PyProof.Rows L2 Mp
open Mp (D Sem)
/-! ### the drawn numbers -/
theorem nilQ (ρ : Rho) : nilA ρ = .ok [] := rfl
theorem oSeq_is {o : Out} {s : Sl} {k : Rho → Out} (h : o = .rt s) : oSeq o k = .rt s := by rw [h]; rfl
def Dr (l : List D) : Prop := ∀ x ∈ l, ∃ m : Nat, m < 1000 ∧ x = .int (m : Int)
theorem Dr.app {l : List D} (h : Dr l) {m : Nat} (hm : m < 1000) : Dr (l ++ [.int (m : Int)]) := fun x hx => by
  rcases List.mem_append.mp hx with q | q
  · exact h x q
  · exact ⟨m, hm, List.mem_singleton.mp q⟩
theorem drw {s0 s3 s5 s6 : Sl} {l : List D} {c : Int} {n : Nat} (hd : Dr l) (hc : 0 ≤ c) :
    ∃ l' c', Dr l' ∧ 0 ≤ c' ∧ l'.length ≤ l.length + 1 ∧ L1__law_numbers n [s0, .fz (.int 24), .ow (.lst l), s3, .fz (.int c), s5, s6] = .nx [s0, .fz (.int 24), .ow (.lst l'), s3, .fz (.int c'), s5, s6] := by
  by_cases h : 0 < c ∧ (l.length : Int) < 24
  · obtain ⟨h1, h2⟩ := h
    obtain ⟨m, em⟩ : ∃ m : Nat, c % 1000 = (m : Int) := ⟨(c % 1000).toNat, by omega⟩
    have dv : divOk c 1000 = true := divOk_small (by decide) (by decide)
    have hs : l.length < sizeLine := by rw [sizeLine_eq]; omega
    refine ⟨l ++ [.int (m : Int)], c / 1000, hd.app (by omega), by omega, by simp, ?_⟩
    unfold L1__law_numbers
    simp [h1, h2, em, dv, hs]
  · refine ⟨l, c, hd, hc, by omega, ?_⟩
    unfold L1__law_numbers
    by_cases h1 : 0 < c
    · have h2 : ¬ (l.length : Int) < 24 := fun z => h ⟨h1, z⟩
      simp [h1, h2]
    · simp [h1]
theorem drx {s0 s1 s6 : Sl} {l : List D} {c : Int} {k j n : Nat} (hd : Dr l) (hl : l.length ≤ 90000) :
    ∃ l' s6', Dr l' ∧ l'.length ≤ l.length + 1 ∧ L2__law_numbers n [s0, s1, .ow (.lst l), .fz (.int (k : Int)), .fz (.int c), .fz (.int (j : Int)), s6] = .nx [s0, s1, .ow (.lst l'), .fz (.int (k : Int)), .fz (.int c), .fz (.int (j : Int)), s6'] := by
  obtain ⟨x, ex, hx, hx2⟩ : ∃ x : Int, (c * 48271 + (k : Int) * 69621 + (j : Int) * 16807 + 11) % 2147483647 = x ∧ 0 ≤ x ∧ x < 2147483647 := ⟨_, rfl, by omega, by omega⟩
  obtain ⟨y, ey⟩ : ∃ y : Int, (x * x + (j : Int)) % 2147483629 = y := ⟨_, rfl⟩
  obtain ⟨m, em⟩ : ∃ m : Nat, y / 7 % 1000 = (m : Int) := ⟨(y / 7 % 1000).toNat, by omega⟩
  have m1 : mulOk c 48271 = true := mulOk_r (by decide) (by decide)
  have m2 : mulOk (k : Int) 69621 = true := mulOk_r (by decide) (by decide)
  have m3 : mulOk (j : Int) 16807 = true := mulOk_r (by decide) (by decide)
  have m4 : mulOk x x = true := mulOk_l (by omega) (by omega)
  have dv : divOk y 7 = true := divOk_small (by decide) (by decide)
  have hs : l.length < sizeLine := by rw [sizeLine_eq]; omega
  refine ⟨l ++ [.int (m : Int)], .fz (.int y), hd.app (by omega), by simp, ?_⟩
  unfold L2__law_numbers
  refine st_set (.fz (.int x)) [s0, s1, .ow (.lst l), .fz (.int (k : Int)), .fz (.int c), .fz (.int (j : Int)), .fz (.int x)] (by simp [m1, m2, m3, ex]) rfl ?_
  refine st_set (.fz (.int y)) [s0, s1, .ow (.lst l), .fz (.int (k : Int)), .fz (.int c), .fz (.int (j : Int)), .fz (.int y)] (by simp [m4, ey]) rfl ?_
  simp [dv, em, hs]
theorem dry {ns : List Int} {s4 s5 s6 : Sl} {l : List D} {k n : Nat} {z : Int} (hk : ns[k]? = some z) (hd : Dr l) (hl : l.length ≤ 80000) :
    ∃ l' s4' s5' s6', Dr l' ∧ l'.length ≤ l.length + 60 ∧ L3__law_numbers n [.fz (.sq ns), .fz (.int 24), .ow (.lst l), .fz (.int (k : Int)), s4, s5, s6] = .nx [.fz (.sq ns), .fz (.int 24), .ow (.lst l'), .fz (.int (k : Int)), s4', s5', s6'] := by
  obtain ⟨c, ec, hc⟩ : ∃ c : Int, (if z < 0 then -z else z) = c ∧ 0 ≤ c := ⟨_, rfl, by split <;> omega⟩
  have hat : atI ns (k : Int) = some z := atI_nat hk
  have p1 : powOk 10 18 = true := powOk_small (by decide) (by decide) (by decide)
  have r60 : rngOk 60 = true := rngOk_small (by decide) (by decide)
  have r5 : rngOk 5 = true := rngOk_small (by decide) (by decide)
  by_cases h : (1000000000000000000 : Int) ≤ c
  · obtain ⟨ρ, eρ, l', c', s5', rfl, h1, h2, h3⟩ := sLoop_P (g := gN 5) (b := L1__law_numbers) (n := n) (fun j ρ => ∃ l' c' s5', ρ = [.fz (.sq ns), .fz (.int 24), .ow (.lst l'), .fz (.int (k : Int)), .fz (.int c'), s5', s6] ∧ Dr l' ∧ 0 ≤ c' ∧ l'.length ≤ l.length + j)
      (ds := rngL 0 60) (ρ := [.fz (.sq ns), .fz (.int 24), .ow (.lst l), .fz (.int (k : Int)), .fz (.int c), s5, s6]) ⟨l, c, s5, rfl, hd, hc, by omega⟩ fun j d' ρ hj h => by
      obtain ⟨rfl, hj2⟩ := rngL_get hj
      obtain ⟨l', c', s5', rfl, h1, h2, h3⟩ := h
      simp only [gN, RP_ok, List.set_cons_succ, List.set_cons_zero]
      obtain ⟨l2, c2, h4, h5, h6, e⟩ := drw (s0 := .fz (.sq ns)) (s3 := .fz (.int (k : Int))) (s5 := .fz (.int (0 + (j : Nat)))) (s6 := s6) (n := n) h1 h2
      rw [e, NxP_nx]
      exact ⟨l2, c2, _, rfl, h4, h5, by omega⟩
    rw [rngL_len] at h3
    refine ⟨l', .fz (.int c'), s5', s6, h1, by omega, ?_⟩
    unfold L3__law_numbers
    refine st_set (.fz (.int c)) [.fz (.sq ns), .fz (.int 24), .ow (.lst l), .fz (.int (k : Int)), .fz (.int c), s5, s6] (by simp [hat, ec]) rfl ?_
    refine (ifT_yes (by simp [p1, h])).trans ?_
    show rOut _ (rng1 (consA (cV (.int 60)) (nilA)) _) _ = _
    rw [show ∀ ρ, rng1 (consA (cV (.int 60)) (nilA)) ρ = .ok (rngL 0 60) by intro ρ; simp [r60], rOut_ok]
    exact eρ
  · obtain ⟨ρ, eρ, l', s5', s6', rfl, h1, h3⟩ := sLoop_P (g := gN 5) (b := L2__law_numbers) (n := n) (fun j ρ => ∃ l' s5' s6', ρ = [.fz (.sq ns), .fz (.int 24), .ow (.lst l'), .fz (.int (k : Int)), .fz (.int c), s5', s6'] ∧ Dr l' ∧ l'.length ≤ l.length + j)
      (ds := rngL 0 5) (ρ := [.fz (.sq ns), .fz (.int 24), .ow (.lst l), .fz (.int (k : Int)), .fz (.int c), s5, s6]) ⟨l, s5, s6, rfl, hd, by omega⟩ fun j d' ρ hj h => by
      obtain ⟨rfl, hj2⟩ := rngL_get hj
      obtain ⟨l', s5', s6', rfl, h1, h3⟩ := h
      simp only [gN, RP_ok, List.set_cons_succ, List.set_cons_zero]
      obtain ⟨l2, s6'', h4, h6, e⟩ := drx (s0 := .fz (.sq ns)) (s1 := .fz (.int 24)) (s6 := s6') (c := c) (k := k) (j := j) (n := n) h1 (by omega)
      rw [Int.zero_add, e, NxP_nx]
      exact ⟨l2, _, _, rfl, h4, by omega⟩
    rw [rngL_len] at h3
    refine ⟨l', .fz (.int c), s5', s6', h1, by omega, ?_⟩
    unfold L3__law_numbers
    refine st_set (.fz (.int c)) [.fz (.sq ns), .fz (.int 24), .ow (.lst l), .fz (.int (k : Int)), .fz (.int c), s5, s6] (by simp [hat, ec]) rfl ?_
    refine (ifT_no (by simp [p1]; omega)).trans ?_
    show rOut _ (rng1 (consA (cV (.int 5)) (nilA)) _) _ = _
    rw [show ∀ ρ, rng1 (consA (cV (.int 5)) (nilA)) ρ = .ok (rngL 0 5) by intro ρ; simp [r5], rOut_ok]
    exact eρ
theorem numbers_ok {ns : List Int} (hn : ns.length ≤ 63) : ∃ l, Dr l ∧ l.length ≤ 24 ∧ mi__law_numbers [.sq ns, .int 24] = .ok (.ow (.lst l)) := by
  have r1 : rngOk (ns.length : Int) = true := rngOk_small (by omega) (by omega)
  obtain ⟨ρ, eρ, l, s3, s4, s5, s6, rfl, h1, h2⟩ := sLoop_P (g := gN 3) (b := L3__law_numbers) (n := 1000000) (fun j ρ => ∃ l s3 s4 s5 s6, ρ = [.fz (.sq ns), .fz (.int 24), .ow (.lst l), s3, s4, s5, s6] ∧ Dr l ∧ l.length ≤ 60 * j)
    (ds := rngL 0 (ns.length : Int)) (ρ := [.fz (.sq ns), .fz (.int 24), .ow (.lst []), .un, .un, .un, .un]) ⟨[], .un, .un, .un, .un, rfl, (fun x hx => nomatch hx), by simp⟩ fun j d' ρ hj h => by
    obtain ⟨rfl, hj2⟩ := rngL_get hj
    obtain ⟨l, s3, s4, s5, s6, rfl, h1, h2⟩ := h
    simp only [gN, RP_ok, List.set_cons_succ, List.set_cons_zero]
    have hlt : j < ns.length := by omega
    obtain ⟨l2, s4', s5', s6', h3, h4, e⟩ := dry (s4 := s4) (s5 := s5) (s6 := s6) (n := 1000000) (List.getElem?_eq_getElem hlt) h1 (by omega)
    rw [Int.zero_add, e, NxP_nx]
    exact ⟨l2, _, _, _, _, rfl, h3, by omega⟩
  refine ⟨l.take 24, fun x hx => h1 x (List.mem_of_mem_take hx), by simp; omega, ?_⟩
  have e : B__law_numbers 1000000 (startN 7 [.sq ns, .int 24]) = .rt (.ow (.lst (l.take 24))) := by
    unfold B__law_numbers
    refine st_own (.ow (.lst [])) [.fz (.sq ns), .fz (.int 24), .ow (.lst []), .un, .un, .un, .un] (lstF_ok (nilQ _) (by decide)) rfl ?_
    refine st_for (rngL 0 (ns.length : Int)) _ (by simp [r1]) eρ ?_
    refine seq_ret _ ?_
    have hc := cutG_take (xs := l) (k := 24) (by decide)
    show R.ok (Sl.ow (D.lst (cutG l none (some 24)))) = _
    rw [hc]; rfl
  exact congrArg outR e
theorem take_ok {l : List D} (h : Dr l) (hl : l.length ≤ 90000) (c : Nat) : ∃ v c' : Nat, v < 1000 ∧ mi__law_take [.lst l] [(c : Int)] = .ok (.int (v : Int), [(c' : Int)]) := by
  have a0 : ∀ x : Int, atI [x] 0 = some x := fun x => atI_nat (j := 0) rfl
  by_cases hc : c < l.length
  · obtain ⟨v, hv, ev⟩ := h l[c] (List.getElem_mem hc)
    have hat : atI l (c : Int) = some (.int (v : Int)) := atI_nat (by rw [List.getElem?_eq_getElem hc, ev])
    refine ⟨v, c + 1, hv, comR_eq fun p => ?_⟩
    have e : B__law_take 1000000 (startP 2 [.lst l] p [(c : Int)]) = .rt (.io (.int (v : Int)) p [((c + 1 : Nat) : Int)]) := by
      unfold B__law_take
      have hc2 : (c : Int) < (l.length : Int) := by omega
      refine st_ifT (by simp [startP, a0, hc2]) ?_
      refine oSeq_is ?_
      refine st_asg (.int ((c : Int) + 1)) [.fz (.lst l), .ow (.cel p [(c : Int) + 1])] (by simp [startP, a0]) rfl ?_
      have hs : (c : Int) + 1 - 1 = (c : Int) := by omega
      simp [a0, hs, hat]
    rw [e]
    exact if_pos rfl
  · refine ⟨0, c, by decide, comR_eq fun p => ?_⟩
    have e : B__law_take 1000000 (startP 2 [.lst l] p [(c : Int)]) = .rt (.io (.int 0) p [(c : Int)]) := by
      unfold B__law_take
      have hc2 : ¬ (c : Int) < (l.length : Int) := by omega
      refine st_if0 (by simp [startP, a0]; omega) ?_
      simp [startP]
    rw [e]
    exact if_pos rfl
end RL

namespace RL
open PySem PySem.Spec PyProof.Rows L2 Mp PM
open Mp (D Sem)
/-! ### members of a row -/
theorem member_ok {n : Nat} {a : Int} (hn : n < 100000) (ha : -1000000000 < a) (ha2 : a < 1000000000) : mi__law_member [.int (n : Int), .int a] = .ok (.fz (.int (Y a n))) := by
  have m1 : mulOk 2 a = true := mulOk_l (by decide) (by decide)
  have r1 : rngOk (n : Int) = true := rngOk_small (by omega) (by omega)
  obtain ⟨ρ, eρ, s4, s5, rfl⟩ := sLoop_P (g := gN 4) (b := L1__law_member) (n := 1000000) (fun j ρ => ∃ s4 s5, ρ = [.fz (.int (n : Int)), .fz (.int a), .fz (.int (Y a j)), .fz (.int (Y a (j + 1))), s4, s5])
    (ds := rngL 0 (n : Int)) (ρ := [.fz (.int (n : Int)), .fz (.int a), .fz (.int (Y a 0)), .fz (.int (Y a (0 + 1))), .un, .un]) ⟨.un, .un, rfl⟩ fun j d' ρ hj h => by
    obtain ⟨rfl, hj2⟩ := rngL_get hj
    obtain ⟨s4, s5, rfl⟩ := h
    simp only [gN, RP_ok, List.set_cons_succ, List.set_cons_zero]
    have m2 : ∀ z : Int, mulOk (2 * a) z = true := fun z => mulOk_l (by omega) (by omega)
    have e : L1__law_member 1000000 [.fz (.int (n : Int)), .fz (.int a), .fz (.int (Y a j)), .fz (.int (Y a (j + 1))), .fz (.int (0 + (j : Nat))), s5] = .nx [.fz (.int (n : Int)), .fz (.int a), .fz (.int (Y a (j + 1))), .fz (.int (Y a (j + 1 + 1))), .fz (.int (0 + (j : Nat))), .fz (.int (Y a (j + 2)))] := by
      have hr := Y_rec a j
      rw [show j + 1 + 1 = j + 2 from rfl]
      generalize Y a j = y0 at *
      generalize Y a (j + 1) = y1 at *
      generalize Y a (j + 2) = y2 at *
      unfold L1__law_member
      refine st_set (.fz (.int y2)) [.fz (.int (n : Int)), .fz (.int a), .fz (.int y0), .fz (.int y1), .fz (.int (0 + (j : Nat))), .fz (.int y2)] (by simp [m1, m2, hr]) rfl ?_
      simp
    rw [e, NxP_nx]
    exact ⟨_, _, rfl⟩
  rw [rngL_len, show ((n : Int) - 0).toNat = n by omega] at eρ
  have e : B__law_member 1000000 (startN 6 [.int (n : Int), .int a]) = .rt (.fz (.int (Y a n))) := by
    unfold B__law_member
    refine st_set (.fz (.int 0)) [.fz (.int (n : Int)), .fz (.int a), .fz (.int 0), .un, .un, .un] (by simp [startN]) rfl ?_
    refine st_set (.fz (.int 1)) [.fz (.int (n : Int)), .fz (.int a), .fz (.int 0), .fz (.int 1), .un, .un] (by simp) rfl ?_
    have e0 : Y a 0 = 0 := rfl
    have e1 : Y a (0 + 1) = 1 := by show (1 : Int) + 0 * a = 1; omega
    rw [e0, e1] at eρ
    refine st_for (rngL 0 (n : Int)) _ (by simp [r1]) eρ ?_
    generalize Y a n = y0
    simp
  exact congrArg outR e
theorem row_ok {n : Nat} {a : Int} (hn : n < 100000) (ha : -1000000000 < a) (ha2 : a < 1000000000) : mi_row_member [.int (n : Int), .int a] = .ok (.fz (.int (Y a n))) := by
  have m1 : mulOk 2 a = true := mulOk_l (by decide) (by decide)
  have r1 : rngOk (n : Int) = true := rngOk_small (by omega) (by omega)
  obtain ⟨ρ, eρ, s2, rfl⟩ := sLoop_P (g := gN 2) (b := L1_row_member) (n := 1000000) (fun j ρ => ∃ s2, ρ = [.fz (.int (n : Int)), .fz (.int a), s2, .fz (.int (Y a j)), .fz (.int (Y a (j + 1)))])
    (ds := rngL 0 (n : Int)) (ρ := [.fz (.int (n : Int)), .fz (.int a), .un, .fz (.int (Y a 0)), .fz (.int (Y a (0 + 1)))]) ⟨.un, rfl⟩ fun j d' ρ hj h => by
    obtain ⟨rfl, hj2⟩ := rngL_get hj
    obtain ⟨s2, rfl⟩ := h
    simp only [gN, RP_ok, List.set_cons_succ, List.set_cons_zero]
    have m2 : ∀ z : Int, mulOk (2 * a) z = true := fun z => mulOk_l (by omega) (by omega)
    have e : L1_row_member 1000000 [.fz (.int (n : Int)), .fz (.int a), .fz (.int (0 + (j : Nat))), .fz (.int (Y a j)), .fz (.int (Y a (j + 1)))] = .nx [.fz (.int (n : Int)), .fz (.int a), .fz (.int (0 + (j : Nat))), .fz (.int (Y a (j + 1))), .fz (.int (Y a (j + 1 + 1)))] := by
      have hr := Y_rec a j
      rw [show j + 1 + 1 = j + 2 from rfl]
      generalize Y a j = y0 at *
      generalize Y a (j + 1) = y1 at *
      generalize Y a (j + 2) = y2 at *
      unfold L1_row_member
      simp [m1, m2, hr]
    rw [e, NxP_nx]
    exact ⟨_, rfl⟩
  rw [rngL_len, show ((n : Int) - 0).toNat = n by omega] at eρ
  have e : B_row_member 1000000 (startN 5 [.int (n : Int), .int a]) = .rt (.fz (.int (Y a n))) := by
    unfold B_row_member
    refine st_asg (.tup [.int 0, .int 1]) [.fz (.int (n : Int)), .fz (.int a), .un, .fz (.int 0), .fz (.int 1)] (by simp [startN, sizeLine_eq]) rfl ?_
    have e0 : Y a 0 = 0 := rfl
    have e1 : Y a (0 + 1) = 1 := by show (1 : Int) + 0 * a = 1; omega
    rw [e0, e1] at eρ
    refine st_for (rngL 0 (n : Int)) _ (by simp [r1]) eρ ?_
    generalize Y a n = y0
    simp
  exact congrArg outR e
theorem mstep {n : Nat} {a y : Int} {s1 s3 : Sl} {k : Nat} (ha : 2 ≤ a) (ha2 : a < 1000000000) :
    L1__is_member n [.fz (.int y), s1, .fz (.int a), s3, .fz (.int (Y a k)), .fz (.int (Y a (k + 1)))] = if y < Y a k then .rt (.fz (.bl false)) else .nx [.fz (.int y), s1, .fz (.int a), s3, .fz (.int (Y a (k + 1))), .fz (.int (Y a (k + 1 + 1)))] := by
  have m1 : mulOk 2 a = true := mulOk_l (by decide) (by decide)
  have m2 : ∀ z : Int, mulOk (2 * a) z = true := fun z => mulOk_l (by omega) (by omega)
  have hr := Y_rec a k
  rw [show k + 1 + 1 = k + 2 from rfl]
  generalize Y a k = y0 at *
  generalize Y a (k + 1) = y1 at *
  generalize Y a (k + 2) = y2 at *
  unfold L1__is_member
  by_cases h : y < y0
  · rw [if_pos h]
    refine st_ifT (by simp [h]) ?_
    simp
  · rw [if_neg h]
    refine st_if0 (by simp; omega) ?_
    simp [m1, m2, hr]
theorem mloop {n : Nat} {a y : Int} {s1 : Sl} (ha : 2 ≤ a) (ha2 : a < 1000000000) : ∀ (ds : List D) (k : Nat) (s3 : Sl),
    ((∀ j, j < ds.length → Y a (k + j) ≤ y) → ∃ s3', sLoop (gN 3) L1__is_member n ds [.fz (.int y), s1, .fz (.int a), s3, .fz (.int (Y a k)), .fz (.int (Y a (k + 1)))] = .nx [.fz (.int y), s1, .fz (.int a), s3', .fz (.int (Y a (k + ds.length))), .fz (.int (Y a (k + ds.length + 1)))]) ∧
    ((∃ j, j < ds.length ∧ y < Y a (k + j)) → sLoop (gN 3) L1__is_member n ds [.fz (.int y), s1, .fz (.int a), s3, .fz (.int (Y a k)), .fz (.int (Y a (k + 1)))] = .rt (.fz (.bl false)))
  | [], k, s3 => ⟨fun _ => ⟨s3, rfl⟩, fun ⟨j, hj, _⟩ => absurd hj (Nat.not_lt_zero _)⟩
  | d :: ds, k, s3 => by
    obtain ⟨ih1, ih2⟩ := mloop (n := n) (y := y) (s1 := s1) ha ha2 ds (k + 1) (.fz d)
    have e0 : ∀ t : Out, (if y < Y a k then t = .rt (.fz (.bl false)) else t = sLoop (gN 3) L1__is_member n ds [.fz (.int y), s1, .fz (.int a), .fz d, .fz (.int (Y a (k + 1))), .fz (.int (Y a (k + 1 + 1)))]) → sLoop (gN 3) L1__is_member n (d :: ds) [.fz (.int y), s1, .fz (.int a), s3, .fz (.int (Y a k)), .fz (.int (Y a (k + 1)))] = t := fun t ht => by
      show rOut _ (R.ok [.fz (.int y), s1, .fz (.int a), .fz d, .fz (.int (Y a k)), .fz (.int (Y a (k + 1)))]) _ = _
      rw [rOut_ok, mstep ha ha2]
      by_cases h : y < Y a k
      · rw [if_pos h] at ht ⊢
        rw [ht]; rfl
      · rw [if_neg h] at ht ⊢
        rw [ht]; rfl
    constructor
    · intro h
      obtain ⟨s3', e⟩ := ih1 fun j hj => by
        have := h (j + 1) (by rw [List.length_cons]; omega)
        rwa [show k + (j + 1) = k + 1 + j by omega] at this
      refine ⟨s3', e0 _ ?_⟩
      have h0 := h 0 (by rw [List.length_cons]; omega)
      rw [Nat.add_zero] at h0
      rw [if_neg (by omega), e, List.length_cons, show k + (ds.length + 1) = k + 1 + ds.length by omega]
    · rintro ⟨j, hj, hy⟩
      refine e0 _ ?_
      by_cases h : y < Y a k
      · rw [if_pos h]
      · rw [if_neg h]
        cases j with
        | zero => exact absurd hy h
        | succ j =>
          exact (ih2 ⟨j, by rw [List.length_cons] at hj; omega, by rwa [show k + (j + 1) = k + 1 + j by omega] at hy⟩).symm
theorem is_member_ok {y n a : Int} (ha : 2 ≤ a) (ha2 : a < 1000000000) (hn : 0 ≤ n) (hr : rngOkB n = true) : mi__is_member [.int y, .int n, .int a] = .ok (.fz (.bl (decide (y = Y a n.toNat)))) := by
  have hp := (pos ha n.toNat).2.1
  have e : B__is_member 1000000 (startN 6 [.int y, .int n, .int a]) = .rt (.fz (.bl (decide (y = Y a n.toNat)))) := by
    unfold B__is_member
    by_cases h0 : y < 0
    · refine st_ifT (by simp [startN, h0]) ?_
      refine oSeq_is ?_
      rw [decide_eq_false (by omega)]
      simp
    · refine st_if0 (by simp [startN]; omega) ?_
      refine st_asg (.tup [.int 0, .int 1]) [.fz (.int y), .fz (.int n), .fz (.int a), .un, .fz (.int 0), .fz (.int 1)] (by simp [startN, sizeLine_eq]) rfl ?_
      obtain ⟨A, B⟩ := mloop (n := 1000000) (y := y) (s1 := .fz (.int n)) ha ha2 (rngL 0 n) 0 .un
      have e0 : Y a 0 = 0 := rfl
      have e1 : Y a (0 + 1) = 1 := by show (1 : Int) + 0 * a = 1; omega
      have hl : (rngL 0 n).length = n.toNat := by rw [rngL_len]; congr 1; omega
      rw [hl, e0, e1] at A B
      have hi : rngB (consA (rdV 1) (nilA)) [.fz (.int y), .fz (.int n), .fz (.int a), .un, .fz (.int 0), .fz (.int 1)] = .ok (rngL 0 n) := by simp [hr]
      by_cases c : ∃ j, j < n.toNat ∧ y < Y a (0 + j)
      · have q := B c
        obtain ⟨j, hj, hy⟩ := c
        rw [Nat.zero_add] at hy
        have := Y_mono ha hj
        rw [decide_eq_false (by omega)]
        refine oSeq_is ?_
        show rOut _ (rngB (consA (rdV 1) (nilA)) _) _ = _
        rw [hi, rOut_ok]
        exact q
      · obtain ⟨s3', q⟩ := A fun j hj => Int.not_lt.mp fun z => c ⟨j, hj, z⟩
        rw [Nat.zero_add] at q
        refine st_for (rngL 0 n) _ hi q ?_
        generalize Y a n.toNat = yn at *
        refine seq_ret _ ?_
        rw [show decide (y = yn) = decide (yn = y) from decide_eq_decide.mpr eq_comm]
        simp
  exact congrArg outR e
end RL

namespace RL
open PySem PySem.Spec PyProof.Rows L2 Mp
open Mp (D Sem)
/-! ### powers by squares -/
theorem pow_step {s0 : Sl} {y m : Nat} {fo sq : Int} (h0 : 0 < y) (m1 : mulOk fo sq = true) (m2 : mulOk sq sq = true) :
    L1__power m [s0, .fz (.int (y : Int)), .fz (.int fo), .fz (.int sq)] = .nx [s0, .fz (.int ((y / 2 : Nat) : Int)), .fz (.int (if y % 2 = 1 then fo * sq else fo)), .fz (.int (sq * sq))] := by
  have dv : divOk (y : Int) 2 = true := divOk_small (by decide) (by decide)
  obtain ⟨q, hq⟩ : ∃ q : Nat, y / 2 = q := ⟨_, rfl⟩
  have e2 : (y : Int) / 2 = (q : Int) := by omega
  rw [hq]
  unfold L1__power
  by_cases h : y % 2 = 1
  · have h1 : (y : Int) % 2 = 1 := by omega
    rw [if_pos h]
    refine st_nx [s0, .fz (.int (y : Int)), .fz (.int (fo * sq)), .fz (.int sq)] ?_ ?_
    · refine (ifT_yes (by simp [h1])).trans ?_
      simp [m1]
    · simp [m2, dv, e2]
  · have h1 : ¬ (y : Int) % 2 = 1 := by omega
    rw [if_neg h]
    refine st_if0 (by simp [h1]) ?_
    simp [m2, dv, e2]
theorem pow_loop {s0 : Sl} : ∀ (y m b f : Nat) (fo sq : Int), y < m → Sz b sq → Sz f fo → f + b * y ≤ 60000000 → b ≤ 60000000 →
    ∃ sq', sWhile C1__power L1__power m [s0, .fz (.int (y : Int)), .fz (.int fo), .fz (.int sq)] = .nx [s0, .fz (.int 0), .fz (.int (fo * sq ^ y)), .fz (.int sq')] := by
  intro y
  induction y using Nat.strongRecOn with
  | ind y ih =>
    intro m b f fo sq hm hb hf hB hb3
    obtain ⟨m, rfl⟩ : ∃ k, m = k + 1 := ⟨m - 1, by omega⟩
    by_cases h0 : y = 0
    · subst h0
      refine ⟨sq, ?_⟩
      rw [sWhile_stop (by unfold C1__power; simp)]
      simp
    · have hy : 0 < y := by omega
      have hbb : b ≤ b * y := Nat.le_mul_of_pos_right b hy
      have m1 : mulOk fo sq = true := mulOk_sz hf hb (by omega)
      have m2 : mulOk sq sq = true := mulOk_sz hb hb (by omega)
      have hc : C1__power [s0, .fz (.int (y : Int)), .fz (.int fo), .fz (.int sq)] = .ok true := by
        unfold C1__power
        have : (0 : Int) < (y : Int) := by omega
        simp [hy]
      rw [sWhile_step hc (pow_step hy m1 m2)]
      have hsq : sq ^ y = (if y % 2 = 1 then sq else 1) * (sq * sq) ^ (y / 2) := by
        have e : sq * sq = sq ^ 2 := by rw [Int.pow_succ, Int.pow_succ, Int.pow_zero, Int.one_mul]
        rw [e, ← Int.pow_mul]
        split
        · next h =>
          rw [← Int.pow_succ']
          congr 1; omega
        · rw [Int.one_mul]
          congr 1; omega
      by_cases h1 : y / 2 = 0
      · have h2 : y = 1 := by omega
        subst h2
        obtain ⟨m, rfl⟩ : ∃ k, m = k + 1 := ⟨m - 1, by omega⟩
        refine ⟨sq * sq, ?_⟩
        rw [sWhile_stop (by unfold C1__power; simp)]
        simp [Int.pow_succ]
      · have hb4 : (b + b) * (y / 2) ≤ b * y := by
          rw [← Nat.two_mul, Nat.mul_assoc, Nat.mul_left_comm]
          exact Nat.mul_le_mul_left b (Nat.mul_div_le y 2)
        have h2y : 2 ≤ y := by omega
        have hbb2 : b * 2 ≤ b * y := Nat.mul_le_mul_left b h2y
        by_cases h : y % 2 = 1
        · rw [if_pos h] at hsq ⊢
          have hf2 : Sz (f + b) (fo * sq) := hf.mul hb
          have hb5 : (b + b) * (y / 2) + b ≤ b * y := by
            have e : b * y = b * (2 * (y / 2) + 1) := by congr 1; omega
            rw [e, Nat.mul_add, Nat.mul_one, ← Nat.mul_assoc, Nat.mul_two]
            exact Nat.le_refl _
          obtain ⟨sq', e⟩ := ih (y / 2) (by omega) m (b + b) (f + b) (fo * sq) (sq * sq) (by omega) (hb.mul hb) hf2 (by omega) (by omega)
          exact ⟨sq', by rw [e, hsq, Int.mul_assoc]⟩
        · rw [if_neg h] at hsq ⊢
          obtain ⟨sq', e⟩ := ih (y / 2) (by omega) m (b + b) f fo (sq * sq) (by omega) (hb.mul hb) hf (by omega) (by omega)
          exact ⟨sq', by rw [e, hsq, Int.one_mul]⟩
theorem power_ok {y b : Nat} {x : Int} (hy : y < 100000) (hb : Sz b x) (hB : 1 + b * y ≤ 60000000) (hb2 : b ≤ 60000000) : mi__power [.int x, .int (y : Int)] = .ok (.fz (.int (x ^ y))) := by
  obtain ⟨sq', q⟩ := pow_loop (s0 := .fz (.int x)) y 1000000 b 1 1 x (by omega) hb (show (1 : Nat) < 2 ^ 1 by decide) hB hb2
  rw [Int.one_mul] at q
  have e : B__power 1000000 (startN 4 [.int x, .int (y : Int)]) = .rt (.fz (.int (x ^ y))) := by
    unfold B__power
    refine st_set (.fz (.int 1)) [.fz (.int x), .fz (.int (y : Int)), .fz (.int 1), .un] (by simp [startN]) rfl ?_
    refine st_set (.fz (.int x)) [.fz (.int x), .fz (.int (y : Int)), .fz (.int 1), .fz (.int x)] (by simp) rfl ?_
    refine st_while _ q ?_
    generalize x ^ y = z
    simp
  exact congrArg outR e
end RL

namespace RL
open PySem PySem.Spec PyProof.Rows L2 Mp
open Mp (D Sem)
theorem bits_pos {x : Nat} (h : 0 < x) : Builtin.Int.intBits (x : Int) = x.log2 + 1 := by
  unfold Builtin.Int.intBits
  have e : ((x : Int) == 0) = false := by
    rw [beq_eq_false_iff_ne]
    omega
  rw [e, if_neg (by decide), Int.natAbs_natCast]
theorem bits_abs (z : Int) : z.natAbs < 2 ^ Builtin.Int.intBits z := by
  by_cases h : z = 0
  · subst h; decide
  · unfold Builtin.Int.intBits
    have e : (z == 0) = false := by rw [beq_eq_false_iff_ne]; exact h
    rw [e, if_neg (by decide)]
    exact Nat.lt_log2_self
theorem is_power_ok {z : Int} {x y : Nat} (hx : x ≤ 1000) (hy : y ≤ 600 ∨ Builtin.Int.intBits z < y) : mi__is_power [.int z, .int (x : Int), .int (y : Int)] = .ok (.fz (.bl (decide (z = (x : Int) ^ y)))) := by
  have e : B__is_power 1000000 (startN 3 [.int z, .int (x : Int), .int (y : Int)]) = .rt (.fz (.bl (decide (z = (x : Int) ^ y)))) := by
    have hp : 0 ≤ (x : Int) ^ y := by rw [← Int.natCast_pow]; exact Int.natCast_nonneg _
    unfold B__is_power
    by_cases h0 : z < 0
    · refine st_ifT (by simp [startN, h0]) ?_
      refine oSeq_is ?_
      rw [decide_eq_false (by omega)]
      simp
    · refine st_if0 (by simp [startN]; omega) ?_
      by_cases h2 : x < 2
      · have h2' : (x : Int) < 2 := by omega
        refine st_ifT (by simp [startN]; omega) ?_
        refine oSeq_is ?_
        by_cases h1 : x = 1
        · subst h1
          have e1 : ((1 : Nat) : Int) ^ y = 1 := Int.one_pow
          rw [e1]
          by_cases hy0 : y = 0 <;> simp [startN, hy0]
        · have h3 : x = 0 := by omega
          subst h3
          by_cases hy0 : y = 0
          · subst hy0; simp [startN]
          · have e1 : ((0 : Nat) : Int) ^ y = 0 := by
              obtain ⟨k, rfl⟩ : ∃ k, y = k + 1 := ⟨y - 1, by omega⟩
              rw [Int.pow_succ]; simp
            rw [e1]
            simp [startN, hy0]
      · refine st_if0 (by simp [startN]; omega) ?_
        have bx := bits_pos (x := x) (by omega)
        have hz := bits_abs z
        obtain ⟨l, hl⟩ : ∃ l, x.log2 = l := ⟨_, rfl⟩
        obtain ⟨bz, hbz⟩ : ∃ bz, Builtin.Int.intBits z = bz := ⟨_, rfl⟩
        have h3 : 2 ^ l ≤ x := by rw [← hl]; exact Nat.log2_self_le (by omega)
        have h4 : 1 ≤ l := by rw [← hl]; exact (Nat.le_log2 (by omega)).mpr (by omega)
        have h5 : l < 10 := by
          refine Nat.lt_of_not_le fun c => ?_
          have := Nat.pow_le_pow_right (show 0 < 2 by decide) c
          omega
        rw [hl] at bx
        rw [hbz] at hz hy
        have e6 : ((l + 1 : Nat) : Int) - 1 = (l : Int) := by omega
        have m1 : mulOk (l : Int) (y : Int) = true := mulOk_l (by omega) (by omega)
        have hmul : (l : Int) * (y : Int) = ((l * y : Nat) : Int) := by simp
        by_cases c : bz < l * y
        · refine st_ifT (show toT _ _ = .ok true from ?_) ?_
          · have c2 : (bz : Int) < (l : Int) * (y : Int) := by rw [hmul]; omega
            show toT (op2 gtD (op2 mulD (op2 subD (op1 bitsD (rdV 1)) (cV (.int 1))) (rdV 2)) (op1 bitsD (rdV 0))) [.fz (.int z), .fz (.int (x : Int)), .fz (.int (y : Int))] = _
            refine toT_ok (op2_ok (op2_ok (a := .int (l : Int)) (b := .int (y : Int)) (op2_ok (a := .int ((l + 1 : Nat) : Int)) (op1_ok rfl (by show R.ok (D.int ((Builtin.Int.intBits (x : Int) : Nat) : Int)) = _; rw [bx])) rfl (by show R.ok (D.int (((l + 1 : Nat) : Int) - 1)) = _; rw [e6])) rfl (iicD_int m1)) (op1_ok rfl (by show R.ok (D.int ((Builtin.Int.intBits z : Nat) : Int)) = R.ok (.int (bz : Int)); rw [hbz])) ?_)
            simp [c2]
          · refine oSeq_is ?_
            have h7 : 2 ^ (l * y) ≤ x ^ y := by rw [Nat.pow_mul]; exact Nat.pow_le_pow_left h3 y
            have h8 : 2 ^ bz ≤ 2 ^ (l * y) := Nat.pow_le_pow_right (by decide) (by omega)
            have h9 : ¬ z = (x : Int) ^ y := fun q => by
              rw [← Int.natCast_pow] at q
              omega
            rw [decide_eq_false h9]
            simp
        · refine st_if0 (show toT _ _ = .ok false from ?_) ?_
          · have c2 : ¬ (bz : Int) < (l : Int) * (y : Int) := by rw [hmul]; omega
            show toT (op2 gtD (op2 mulD (op2 subD (op1 bitsD (rdV 1)) (cV (.int 1))) (rdV 2)) (op1 bitsD (rdV 0))) [.fz (.int z), .fz (.int (x : Int)), .fz (.int (y : Int))] = _
            refine toT_ok (op2_ok (op2_ok (a := .int (l : Int)) (b := .int (y : Int)) (op2_ok (a := .int ((l + 1 : Nat) : Int)) (op1_ok rfl (by show R.ok (D.int ((Builtin.Int.intBits (x : Int) : Nat) : Int)) = _; rw [bx])) rfl (by show R.ok (D.int (((l + 1 : Nat) : Int) - 1)) = _; rw [e6])) rfl (iicD_int m1)) (op1_ok rfl (by show R.ok (D.int ((Builtin.Int.intBits z : Nat) : Int)) = R.ok (.int (bz : Int)); rw [hbz])) ?_)
            show R.ok (D.bl (decide ((l : Int) * (y : Int) > (bz : Int)))) = _
            rw [decide_eq_false c2]
          · have hyl : y ≤ l * y := Nat.le_mul_of_pos_left y h4
            have hy6 : y ≤ 600 := by omega
            have q := power_ok (y := y) (b := 10) (x := (x : Int)) (by omega) (show ((x : Int)).natAbs < 2 ^ 10 by omega) (by omega) (by decide)
            generalize (x : Int) ^ y = w at *
            simp [startN, q]
  exact congrArg outR e
end RL

namespace RL
open PySem PySem.Spec PyProof.Rows L2 Mp
open Mp (D Sem)
/-! ### digit by digit -/
theorem and_step (a b : Nat) : a &&& b = a ↔ a % 2 ≤ b % 2 ∧ (a / 2) &&& (b / 2) = a / 2 := by
  have h1 : (a &&& b) / 2 = a / 2 &&& b / 2 := Nat.and_div_two
  have h2 : (a &&& b) % 2 = (a % 2) &&& (b % 2) := Nat.and_mod_two_pow (n := 1)
  have h3 : (a % 2) &&& (b % 2) = a % 2 ↔ a % 2 ≤ b % 2 := by
    have q1 : a % 2 < 2 := Nat.mod_lt _ (by decide)
    have q2 : b % 2 < 2 := Nat.mod_lt _ (by decide)
    generalize a % 2 = u at *
    generalize b % 2 = v at *
    have : ∀ u < 2, ∀ v < 2, (u &&& v = u ↔ u ≤ v) := by decide
    exact this u q1 v q2
  rw [← h3, ← h2, ← h1]
  constructor
  · intro h; rw [h]; exact ⟨rfl, rfl⟩
  · rintro ⟨h, h'⟩; omega
theorem ustep {a b n : Nat} {s2 : Sl} : L1__law_under_2 n [.fz (.int (a : Int)), .fz (.int (b : Int)), s2] = if b % 2 < a % 2 then .rt (.fz (.bl false)) else if a / 2 = 0 then .rt (.fz (.bl true)) else .nx [.fz (.int ((a / 2 : Nat) : Int)), .fz (.int ((b / 2 : Nat) : Int)), s2] := by
  have d1 : divOk (a : Int) 2 = true := divOk_small (by decide) (by decide)
  have d2 : divOk (b : Int) 2 = true := divOk_small (by decide) (by decide)
  obtain ⟨q, hq⟩ : ∃ q : Nat, a / 2 = q := ⟨_, rfl⟩
  obtain ⟨r, hr⟩ : ∃ r : Nat, b / 2 = r := ⟨_, rfl⟩
  have e1 : (a : Int) / 2 = (q : Int) := by omega
  have e2 : (b : Int) / 2 = (r : Int) := by omega
  rw [hq, hr]
  unfold L1__law_under_2
  by_cases h : b % 2 < a % 2
  · rw [if_pos h]
    have h' : (b : Int) % 2 < (a : Int) % 2 := by omega
    refine st_ifT (by simp [h']) ?_
    simp
  · rw [if_neg h]
    have h' : ¬ (b : Int) % 2 < (a : Int) % 2 := by omega
    refine st_if0 (by simp; omega) ?_
    refine st_set (.fz (.int (q : Int))) [.fz (.int (q : Int)), .fz (.int (b : Int)), s2] (by simp [d1, e1]) rfl ?_
    refine st_set (.fz (.int (r : Int))) [.fz (.int (q : Int)), .fz (.int (r : Int)), s2] (by simp [d2, e2]) rfl ?_
    by_cases hq0 : q = 0
    · rw [if_pos hq0]; simp [hq0]
    · rw [if_neg hq0]; simp [hq0]
theorem uloop {n : Nat} : ∀ (ds : List D) (a b : Nat) (s2 : Sl), 0 < ds.length → a < 2 ^ ds.length → sLoop (gN 2) L1__law_under_2 n ds [.fz (.int (a : Int)), .fz (.int (b : Int)), s2] = .rt (.fz (.bl (decide (a &&& b = a))))
  | [], a, b, s2, h, _ => absurd h (Nat.lt_irrefl _)
  | d :: ds, a, b, s2, _, ha => by
    show rOut _ (R.ok (α := Rho) [.fz (.int (a : Int)), .fz (.int (b : Int)), .fz d]) _ = _
    rw [rOut_ok, ustep]
    have hs := and_step a b
    by_cases h : b % 2 < a % 2
    · rw [if_pos h, decide_eq_false (fun z => by have := (hs.mp z).1; omega)]
      rfl
    · rw [if_neg h]
      by_cases h2 : a / 2 = 0
      · rw [if_pos h2, decide_eq_true (hs.mpr ⟨by omega, by rw [h2]; exact Nat.zero_and _⟩)]
        rfl
      · rw [if_neg h2]
        rw [List.length_cons, Nat.pow_succ] at ha
        have hl : 0 < ds.length := by
          refine Nat.pos_of_ne_zero fun z => ?_
          rw [z] at ha; omega
        have e := uloop (n := n) ds (a / 2) (b / 2) (.fz d) hl (by omega)
        have e2 : decide (a &&& b = a) = decide ((a / 2) &&& (b / 2) = a / 2) := decide_eq_decide.mpr ⟨fun z => (hs.mp z).2, fun z => hs.mpr ⟨by omega, z⟩⟩
        rw [e2]
        exact e
theorem bitAnd_nat (a b : Nat) : Builtin.bitAnd (a : Int) (b : Int) = ((a &&& b : Nat) : Int) := rfl
theorem under_ok {a b : Int} (ha : a < 2 ^ 3000) : mi__law_under_2 [.int a, .int b] = .ok (.fz (.bl (decide (0 ≤ a ∧ 0 ≤ b ∧ Builtin.bitAnd a b = a)))) := by
  have e : B__law_under_2 1000000 (startN 3 [.int a, .int b]) = .rt (.fz (.bl (decide (0 ≤ a ∧ 0 ≤ b ∧ Builtin.bitAnd a b = a)))) := by
    unfold B__law_under_2
    by_cases h1 : a < 0
    · refine st_ifT (orT_yes (by simp [startN, h1])) ?_
      rw [decide_eq_false (by omega)]
      simp
    · by_cases h2 : b < 0
      · refine st_ifT ((orT_no (by simp [startN]; omega) rfl).trans (by simp [startN, h2])) ?_
        rw [decide_eq_false (by omega)]
        simp
      · refine st_if0 ((orT_no (by simp [startN]; omega) rfl).trans (by simp [startN]; omega)) ?_
        obtain ⟨m, rfl⟩ := Int.eq_ofNat_of_zero_le (Int.not_lt.mp h1)
        obtain ⟨k, rfl⟩ := Int.eq_ofNat_of_zero_le (Int.not_lt.mp h2)
        have r1 : rngOk 3000 = true := rngOk_small (by decide) (by decide)
        have hl : (rngL 0 3000).length = 3000 := rngL_len
        have q := uloop (n := 1000000) (rngL 0 3000) m k .un (by rw [hl]; decide) (by rw [hl]; exact_mod_cast ha)
        have e2 : decide (0 ≤ (m : Int) ∧ 0 ≤ (k : Int) ∧ Builtin.bitAnd (m : Int) (k : Int) = (m : Int)) = decide (m &&& k = m) := decide_eq_decide.mpr ⟨fun z => by have := z.2.2; rw [bitAnd_nat] at this; omega, fun z => ⟨by omega, by omega, by rw [bitAnd_nat, z]⟩⟩
        rw [e2]
        refine oSeq_is ?_
        show rOut _ (rng1 (consA (cV (.int 3000)) (nilA)) _) _ = _
        rw [show ∀ ρ, rng1 (consA (cV (.int 3000)) (nilA)) ρ = .ok (rngL 0 3000) by intro ρ; simp [r1], rOut_ok]
        exact q
  exact congrArg outR e
end RL

namespace RL
open PySem PySem.Spec PyProof.Rows L2 Mp
open Mp (D Sem)
/-! ### polynomials -/
abbrev kx : List Key := [.inr "x"]
def pC (v : Int) : D := if v = 0 then .dt [] [] else .dt [[]] [.int v]
def pY (v : Int) : D := if v = 7 then .dt [kx] [.int 1] else .dt [kx, []] [.int 1, .int (v - 7)]
theorem cleanC (v : Int) : mi__law_clean [.dt [[]] [.int v]] = .ok (.ow (pC v)) := by
  have e : B__law_clean 1000000 (startN 3 [.dt [[]] [.int v]]) = .rt (.ow (pC v)) := by
    unfold B__law_clean
    refine st_own (.ow (.dt [] [])) [.fz (.dt [[]] [.int v]), .ow (.dt [] []), .un] rfl rfl ?_
    refine st_nx [.fz (.dt [[]] [.int v]), .ow (pC v), .fz (.tup [])] ?_ rfl
    show noxO (sLoop (gN 2) L1__law_clean 1000000 [.tup []] [.fz (.dt [[]] [.int v]), .ow (.dt [] []), .un]) = _
    have h1 : L1__law_clean 1000000 [.fz (.dt [[]] [.int v]), .ow (.dt [] []), .fz (.tup [])] = .nx [.fz (.dt [[]] [.int v]), .ow (pC v), .fz (.tup [])] := by
      unfold L1__law_clean pC
      have hx : ixD (.dt [[]] [.int v]) (.tup []) = .ok (.int v) := rfl
      have hs : (0 : Nat) < sizeLine := by rw [sizeLine_eq]; decide
      have hp : putD (.dt [] []) (.tup []) (.int v) = .ok (.dt [[]] [.int v]) := (if_pos hs : (if 0 < sizeLine then R.ok (D.dt [[]] [.int v]) else R.no) = _)
      have ht : toT (op2 neD (op2 ixD (rdV 0) (rdV 2)) (cV (.int 0))) [.fz (.dt [[]] [.int v]), .ow (.dt [] []), .fz (.tup [])] = .ok (!decide (v = 0)) := toT_ok (op2_ok (op2_ok rfl rfl hx) rfl (neD_ok (eqR_int _ _)))
      by_cases h : v = 0
      · rw [decide_eq_true h] at ht
        rw [if_pos h]
        exact ifT_no ht
      · rw [decide_eq_false h] at ht
        rw [if_neg h]
        refine (ifT_yes ht).trans ?_
        show (match (putD (.dt [] []) (.tup []) (.int v)).bind (fun od' => R.ok ([.fz (.dt [[]] [.int v]), .ow od', .fz (.tup [])] : Rho)) with | .ok ρ' => Out.nx ρ' | _ => .no) = _
        rw [hp]; rfl
    show noxO (oLoop (L1__law_clean 1000000 [.fz (.dt [[]] [.int v]), .ow (.dt [] []), .fz (.tup [])]) fun ρ => .nx ρ) = _
    rw [h1]; rfl
  exact congrArg outR e
theorem valC (v : Int) (vals : D) : mi_value_of [pC v, vals] = .ok (.fz (.int v)) := by
  have e : B_value_of 1000000 (startN 6 [pC v, vals]) = .rt (.fz (.int v)) := by
    unfold B_value_of pC
    by_cases h : v = 0
    · rw [if_pos h, h]
      rfl
    · rw [if_neg h]
      refine st_set (.fz (.int 0)) [.fz (.dt [[]] [.int v]), .fz vals, .fz (.int 0), .un, .un, .un] rfl rfl ?_
      refine st_nx [.fz (.dt [[]] [.int v]), .fz vals, .fz (.int (0 + v)), .fz (.tup []), .fz (.int v), .un] rfl ?_
      rw [Int.zero_add]; rfl
  exact congrArg outR e
end RL

namespace RL
open PySem PySem.Spec PyProof.Rows L2 Mp
open Mp (D Sem)
theorem hk1 (s : Str) (d : D) : ixD (.dk [.inr s] [d]) (.str s) = .ok d := by
  have h : valG [((.inr s : Key), d)] (.inr s) = some d := by simp [valG]
  show (match some (valG [((.inr s : Key), d)] (.inr s)) with | some (some d) => R.ok d | _ => .no) = _
  rw [h]
theorem hk2 (s : Str) (d : D) (r : List (List Key)) (q : List D) : ixD (.dt ([.inr s] :: r) (d :: q)) (.tup [.str s]) = .ok d := by
  have h : valG (([(.inr s : Key)], d) :: r.zip q) [.inr s] = some d := by simp [valG]
  show (match some (valG (([(.inr s : Key)], d) :: r.zip q) [.inr s]) with | some (some d) => R.ok d | _ => .no) = _
  rw [h]
theorem vx_in {s0 s2 s3 s5 : Sl} {n : Nat} {nm : Str} {v : Int} : sLoop (gN 5) L1_value_of n [.str nm] [s0, .fz (.dk [.inr nm] [.int v]), s2, s3, .fz (.int 1), s5] = .nx [s0, .fz (.dk [.inr nm] [.int v]), s2, s3, .fz (.int v), .fz (.str nm)] := by
  have m1 : mulOk 1 v = true := mulOk_l (by decide) (by decide)
  have hx : ixD (.dk [.inr nm] [.int v]) (.str nm) = .ok (.int v) := hk1 nm _
  have h1 : L1_value_of n [s0, .fz (.dk [.inr nm] [.int v]), s2, s3, .fz (.int 1), .fz (.str nm)] = .nx [s0, .fz (.dk [.inr nm] [.int v]), s2, s3, .fz (.int v), .fz (.str nm)] := by
    unfold L1_value_of
    show rOut _ (((op2 ixD (rdV 1) (rdV 5)) [s0, .fz (.dk [.inr nm] [.int v]), s2, s3, .fz (.int 1), .fz (.str nm)]).bind fun b => (mulD (.int 1) b).bind fun d => if flatD d then .ok d else .no) _ = _
    rw [show (op2 ixD (rdV 1) (rdV 5)) [s0, .fz (.dk [.inr nm] [.int v]), s2, s3, .fz (.int 1), .fz (.str nm)] = .ok (.int v) from hx, R.bind_ok, show mulD (.int 1) (.int v) = .ok (.int (1 * v)) from iicD_int m1, Int.one_mul]
    rfl
  show oLoop (L1_value_of n [s0, .fz (.dk [.inr nm] [.int v]), s2, s3, .fz (.int 1), .fz (.str nm)]) (fun ρ => .nx ρ) = _
  rw [h1]; rfl
theorem vx_st {vs : List D} {ks : List (List Key)} {s4 s5 : Sl} {n : Nat} {nm : Str} {v t : Int} (h : ixD (.dt ks vs) (.tup [.str nm]) = .ok (.int 1)) : L2_value_of n [.fz (.dt ks vs), .fz (.dk [.inr nm] [.int v]), .fz (.int t), .fz (.tup [.str nm]), s4, s5] = .nx [.fz (.dt ks vs), .fz (.dk [.inr nm] [.int v]), .fz (.int (t + v)), .fz (.tup [.str nm]), .fz (.int v), .fz (.str nm)] := by
  unfold L2_value_of
  refine st_set (.fz (.int 1)) [.fz (.dt ks vs), .fz (.dk [.inr nm] [.int v]), .fz (.int t), .fz (.tup [.str nm]), .fz (.int 1), s5] (show (ixD (.dt ks vs) (.tup [.str nm])).bind _ = _ by rw [h]; rfl) rfl ?_
  refine st_for [.str nm] _ rfl vx_in ?_
  rfl
theorem valX (nm : Str) (v : Int) : mi_value_of [.dt [[.inr nm]] [.int 1], .dk [.inr nm] [.int v]] = .ok (.fz (.int v)) := by
  have e : B_value_of 1000000 (startN 6 [.dt [[.inr nm]] [.int 1], .dk [.inr nm] [.int v]]) = .rt (.fz (.int v)) := by
    unfold B_value_of
    refine st_set (.fz (.int 0)) [.fz (.dt [[.inr nm]] [.int 1]), .fz (.dk [.inr nm] [.int v]), .fz (.int 0), .un, .un, .un] rfl rfl ?_
    refine st_nx [.fz (.dt [[.inr nm]] [.int 1]), .fz (.dk [.inr nm] [.int v]), .fz (.int (0 + v)), .fz (.tup [.str nm]), .fz (.int v), .fz (.str nm)] ?_ ?_
    · show noxO (oLoop (L2_value_of 1000000 [.fz (.dt [[.inr nm]] [.int 1]), .fz (.dk [.inr nm] [.int v]), .fz (.int 0), .fz (.tup [.str nm]), .un, .un]) fun ρ => .nx ρ) = _
      rw [vx_st (hk2 nm _ [] [])]; rfl
    · rw [Int.zero_add]; rfl
  exact congrArg outR e
end RL

namespace RL
open PySem PySem.Spec PyProof.Rows L2 Mp
open Mp (D Sem)
theorem ixF_ok {f g : Rho → R D} {ρ : Rho} {a b d : D} (hf : f ρ = .ok a) (hg : g ρ = .ok b) (h : ixD a b = .ok d) : ixF f g ρ = .ok (.fz d) := by
  unfold ixF
  rw [hf, R.bind_ok, hg, R.bind_ok, h]; rfl
def pW (nm : Str) (w : Int) : D := if w = 0 then .dt [[.inr nm]] [.int 1] else .dt [[.inr nm], []] [.int 1, .int w]
theorem hk3 (nm : Str) (w : D) : ixD (.dt [[.inr nm], []] [.int 1, w]) (.tup []) = .ok w := by
  have h : valG [([(.inr nm : Key)], D.int 1), ([], w)] [] = some w := by simp [valG]
  show (match some (valG [([(.inr nm : Key)], D.int 1), ([], w)] []) with | some (some d) => R.ok d | _ => .no) = _
  rw [h]
theorem put1 (nm : Str) : putD (.dt [] []) (.tup [.str nm]) (.int 1) = .ok (.dt [[.inr nm]] [.int 1]) :=
  (if_pos (by rw [sizeLine_eq]; decide) : (if 0 < sizeLine then R.ok (D.dt [[.inr nm]] [.int 1]) else R.no) = _)
theorem put2 (nm : Str) (w : Int) : putD (.dt [[.inr nm]] [.int 1]) (.tup []) (.int w) = .ok (.dt [[.inr nm], []] [.int 1, .int w]) := by
  have h : putG [([(.inr nm : Key)], D.int 1)] [] (.int w) = [([(.inr nm : Key)], D.int 1), ([], .int w)] := by simp [putG]
  show (if 1 < sizeLine then R.ok (dTv (putG [([(.inr nm : Key)], D.int 1)] [] (.int w))) else R.no) = _
  rw [h, if_pos (by rw [sizeLine_eq]; decide)]
  rfl
theorem cstep {x od od' k : D} {c : Int} {n : Nat} (h : ixD x k = .ok (.int c)) (hc : c ≠ 0) (hp : putD od k (.int c) = .ok od') : L1__law_clean n [.fz x, .ow od, .fz k] = .nx [.fz x, .ow od', .fz k] := by
  have ht : toT (op2 neD (op2 ixD (rdV 0) (rdV 2)) (cV (.int 0))) [.fz x, .ow od, .fz k] = .ok (!decide (c = 0)) := toT_ok (op2_ok (op2_ok rfl rfl h) rfl (neD_ok (eqR_int _ _)))
  rw [decide_eq_false hc] at ht
  unfold L1__law_clean
  refine (ifT_yes ht).trans ?_
  have e1 : toV (ixF (rdV 0) (rdV 2)) [.fz x, .ow od, .fz k] = .ok (.int c) := by
    refine toV_fz ?_
    show (ixD x k).bind _ = _
    rw [h]; rfl
  show rOut _ (toV (ixF (rdV 0) (rdV 2)) [.fz x, .ow od, .fz k]) _ = _
  rw [e1, rOut_ok]
  show (match (putD od k (.int c)).bind (fun od' => R.ok ([.fz x, .ow od', .fz k] : Rho)) with | .ok ρ' => Out.nx ρ' | _ => .no) = _
  rw [hp]; rfl
theorem cskip {x od k : D} {n : Nat} (h : ixD x k = .ok (.int 0)) : L1__law_clean n [.fz x, .ow od, .fz k] = .nx [.fz x, .ow od, .fz k] := by
  have ht : toT (op2 neD (op2 ixD (rdV 0) (rdV 2)) (cV (.int 0))) [.fz x, .ow od, .fz k] = .ok (!decide ((0 : Int) = 0)) := toT_ok (op2_ok (op2_ok rfl rfl h) rfl (neD_ok (eqR_int _ _)))
  unfold L1__law_clean
  exact ifT_no ht
theorem cleanW (nm : Str) (w : Int) : mi__law_clean [.dt [[.inr nm], []] [.int 1, .int w]] = .ok (.ow (pW nm w)) := by
  have e : B__law_clean 1000000 (startN 3 [.dt [[.inr nm], []] [.int 1, .int w]]) = .rt (.ow (pW nm w)) := by
    unfold B__law_clean
    refine st_own (.ow (.dt [] [])) [.fz (.dt [[.inr nm], []] [.int 1, .int w]), .ow (.dt [] []), .un] rfl rfl ?_
    refine st_nx [.fz (.dt [[.inr nm], []] [.int 1, .int w]), .ow (pW nm w), .fz (.tup [])] ?_ rfl
    have h1 := cstep (n := 1000000) (x := .dt [[.inr nm], []] [.int 1, .int w]) (od := .dt [] []) (hk2 nm (.int 1) [[]] [.int w]) (by decide) (put1 nm)
    have h2 : L1__law_clean 1000000 [.fz (.dt [[.inr nm], []] [.int 1, .int w]), .ow (.dt [[.inr nm]] [.int 1]), .fz (.tup [])] = .nx [.fz (.dt [[.inr nm], []] [.int 1, .int w]), .ow (pW nm w), .fz (.tup [])] := by
      unfold pW
      by_cases h : w = 0
      · subst h; rw [if_pos rfl]; exact cskip (hk3 nm _)
      · rw [if_neg h]; exact cstep (hk3 nm _) h (put2 nm w)
    show noxO (oLoop (L1__law_clean 1000000 [.fz (.dt [[.inr nm], []] [.int 1, .int w]), .ow (.dt [] []), .fz (.tup [.str nm])]) fun ρ => sLoop (gN 2) L1__law_clean 1000000 [.tup []] ρ) = _
    rw [h1]
    show noxO (oLoop (L1__law_clean 1000000 [.fz (.dt [[.inr nm], []] [.int 1, .int w]), .ow (.dt [[.inr nm]] [.int 1]), .fz (.tup [])]) fun ρ => .nx ρ) = _
    rw [h2]; rfl
  exact congrArg outR e
theorem valW (nm : Str) (w v : Int) : mi_value_of [pW nm w, .dk [.inr nm] [.int v]] = .ok (.fz (.int (v + w))) := by
  have e : B_value_of 1000000 (startN 6 [pW nm w, .dk [.inr nm] [.int v]]) = .rt (.fz (.int (v + w))) := by
    unfold B_value_of pW
    by_cases h : w = 0
    · rw [if_pos h, h, Int.add_zero]
      refine st_set (.fz (.int 0)) [.fz (.dt [[.inr nm]] [.int 1]), .fz (.dk [.inr nm] [.int v]), .fz (.int 0), .un, .un, .un] rfl rfl ?_
      refine st_nx [.fz (.dt [[.inr nm]] [.int 1]), .fz (.dk [.inr nm] [.int v]), .fz (.int (0 + v)), .fz (.tup [.str nm]), .fz (.int v), .fz (.str nm)] ?_ ?_
      · show noxO (oLoop (L2_value_of 1000000 [.fz (.dt [[.inr nm]] [.int 1]), .fz (.dk [.inr nm] [.int v]), .fz (.int 0), .fz (.tup [.str nm]), .un, .un]) fun ρ => .nx ρ) = _
        rw [vx_st (hk2 nm _ [] [])]; rfl
      · rw [Int.zero_add]; rfl
    · rw [if_neg h]
      refine st_set (.fz (.int 0)) [.fz (.dt [[.inr nm], []] [.int 1, .int w]), .fz (.dk [.inr nm] [.int v]), .fz (.int 0), .un, .un, .un] rfl rfl ?_
      refine st_nx [.fz (.dt [[.inr nm], []] [.int 1, .int w]), .fz (.dk [.inr nm] [.int v]), .fz (.int (0 + v + w)), .fz (.tup []), .fz (.int w), .fz (.str nm)] ?_ ?_
      · show noxO (oLoop (L2_value_of 1000000 [.fz (.dt [[.inr nm], []] [.int 1, .int w]), .fz (.dk [.inr nm] [.int v]), .fz (.int 0), .fz (.tup [.str nm]), .un, .un]) fun ρ => sLoop (gN 3) L2_value_of 1000000 [.tup []] ρ) = _
        rw [vx_st (hk2 nm _ [[]] [.int w])]
        have h2 : L2_value_of 1000000 [.fz (.dt [[.inr nm], []] [.int 1, .int w]), .fz (.dk [.inr nm] [.int v]), .fz (.int (0 + v)), .fz (.tup []), .fz (.int v), .fz (.str nm)] = .nx [.fz (.dt [[.inr nm], []] [.int 1, .int w]), .fz (.dk [.inr nm] [.int v]), .fz (.int (0 + v + w)), .fz (.tup []), .fz (.int w), .fz (.str nm)] := by
          unfold L2_value_of
          refine st_set (.fz (.int w)) [.fz (.dt [[.inr nm], []] [.int 1, .int w]), .fz (.dk [.inr nm] [.int v]), .fz (.int (0 + v)), .fz (.tup []), .fz (.int w), .fz (.str nm)] (ixF_ok rfl rfl (hk3 nm _)) rfl ?_
          rfl
        show noxO (oLoop (L2_value_of 1000000 [.fz (.dt [[.inr nm], []] [.int 1, .int w]), .fz (.dk [.inr nm] [.int v]), .fz (.int (0 + v)), .fz (.tup []), .fz (.int v), .fz (.str nm)]) fun ρ => .nx ρ) = _
        rw [h2]; rfl
      · rw [Int.zero_add]; rfl
  exact congrArg outR e
end RL

namespace RL
open PySem PySem.Spec PyProof.Rows L2 Mp
open Mp (D Sem)
theorem dsp1 {m : Rho → R Sl} {ρ : Rho} {v : D} (h : toV m ρ = .ok v) : dspT (consT (tupF nilA) m nilT) ρ = .ok (.ow (.dt [[]] [v])) := by
  have e1 : toV (tupF nilA) ρ = .ok (.tup []) := toV_fz (tupF_ok (nilQ _) (by decide))
  have e2 : consT (tupF nilA) m nilT ρ = .ok [([], v)] := by
    unfold consT
    rw [e1, R.bind_ok]
    show (toV m ρ).bind _ = _
    rw [h, R.bind_ok]; rfl
  unfold dspT
  rw [e2, R.bind_ok, if_pos (by show 1 ≤ 15; decide)]; rfl
theorem dspx {nm : Str} {ρ : Rho} : dspT (consT (tupF (consA (toV (toF (cV (.str nm)))) nilA)) (toF (cV (.int 1))) nilT) ρ = .ok (.ow (.dt [[.inr nm]] [.int 1])) := by
  have e1 : toV (tupF (consA (toV (toF (cV (.str nm)))) nilA)) ρ = .ok (.tup [.str nm]) := toV_fz (tupF_ok (consA_ok rfl rfl) (by show 1 ≤ 100000; decide))
  have e2 : consT (tupF (consA (toV (toF (cV (.str nm)))) nilA)) (toF (cV (.int 1))) nilT ρ = .ok [([.inr nm], .int 1)] := by
    unfold consT
    rw [e1, R.bind_ok]; rfl
  unfold dspT
  rw [e2, R.bind_ok, if_pos (by show 1 ≤ 15; decide)]; rfl
theorem dspw {nm : Str} {m : Rho → R Sl} {ρ : Rho} {v : D} (h : toV m ρ = .ok v) : dspT (consT (tupF (consA (toV (toF (cV (.str nm)))) nilA)) (toF (cV (.int 1))) (consT (tupF nilA) m nilT)) ρ = .ok (.ow (.dt [[.inr nm], []] [.int 1, v])) := by
  have e0 : toV (tupF (consA (toV (toF (cV (.str nm)))) nilA)) ρ = .ok (.tup [.str nm]) := toV_fz (tupF_ok (consA_ok rfl rfl) (by show 1 ≤ 100000; decide))
  have e1 : toV (tupF nilA) ρ = .ok (.tup []) := toV_fz (tupF_ok (nilQ _) (by decide))
  have e2 : consT (tupF nilA) m nilT ρ = .ok [([], v)] := by
    unfold consT
    rw [e1, R.bind_ok]
    show (toV m ρ).bind _ = _
    rw [h, R.bind_ok]; rfl
  have e3 : consT (tupF (consA (toV (toF (cV (.str nm)))) nilA)) (toF (cV (.int 1))) (consT (tupF nilA) m nilT) ρ = .ok [([.inr nm], .int 1), ([], v)] := by
    generalize consT (tupF nilA) m nilT = c at *
    unfold consT
    rw [e0, R.bind_ok]
    show (R.ok (D.int 1)).bind (fun d => (c ρ).bind fun r => R.ok (([(.inr nm : Key)], d) :: r)) = _
    rw [R.bind_ok, e2, R.bind_ok]
  have e4 : mergeG [] [([(.inr nm : Key)], D.int 1), ([], v)] = [([.inr nm], .int 1), ([], v)] := by simp [mergeG, putG]
  unfold dspT
  rw [e3, R.bind_ok, if_pos (by show 2 ≤ 15; decide), e4]; rfl
theorem dspk {nm : Str} {m : Rho → R Sl} {ρ : Rho} {v : D} (h : toV m ρ = .ok v) : dspF (consP (cV (.str nm)) m nilP) ρ = .ok (.ow (.dk [.inr nm] [v])) := by
  have e2 : consP (cV (.str nm)) m nilP ρ = .ok [(.inr nm, v)] := by
    unfold consP
    show (toV m ρ).bind _ = _
    rw [h, R.bind_ok]; rfl
  unfold dspF
  rw [e2, R.bind_ok, if_pos (by show 1 ≤ 15; decide)]; rfl
theorem given_ok (v q : Int) : ∃ p d, mi__law_given [.int v, .int q] = .ok (.fz (.tup [p, d])) ∧ mi_value_of [p, d] = .ok (.fz (.int v)) := by
  obtain ⟨r, hr⟩ : ∃ r, q % 3 = r := ⟨_, rfl⟩
  by_cases h0 : r = 0
  · refine ⟨_, _, ?_, valC v (.dk [] [])⟩
    have e : B__law_given 1000000 (startN 2 [.int v, .int q]) = .rt (.fz (.tup [pC v, .dk [] []])) := by
      unfold B__law_given
      refine st_ifT (by simp [startN, hr, h0]) (oSeq_is ?_)
      refine st_ret _ (tupF_ok (consA_ok (toV_ow (callF_ok (consA_ok (toV_ow (dsp1 (v := .int v) rfl)) rfl) (cleanC v))) (consA_ok rfl rfl)) (by show 2 ≤ 100000; decide))
    exact congrArg outR e
  · by_cases h1 : r = 1 ∧ 0 ≤ v
    · have e : ∃ nm, B__law_given 1000000 (startN 2 [.int v, .int q]) = .rt (.fz (.tup [.dt [[.inr nm]] [.int 1], .dk [.inr nm] [.int v]])) := by
        unfold B__law_given
        generalize ("x" : Str) = nm
        refine ⟨nm, ?_⟩
        refine st_if0 (by simp [startN, hr, h0]) ?_
        refine st_ifT (by simp [startN, hr, h1.1, h1.2]) (oSeq_is ?_)
        exact st_ret _ (tupF_ok (consA_ok (toV_ow dspx) (consA_ok (toV_ow (dspk (v := .int v) rfl)) rfl)) (by show 2 ≤ 100000; decide))
      obtain ⟨nm, e⟩ := e
      exact ⟨_, _, congrArg outR e, valX nm v⟩
    · have e : ∃ nm, B__law_given 1000000 (startN 2 [.int v, .int q]) = .rt (.fz (.tup [pW nm (v - 7), .dk [.inr nm] [.int 7]])) := by
        unfold B__law_given
        generalize ("x" : Str) = nm
        refine ⟨nm, ?_⟩
        refine st_if0 (by simp [startN, hr, h0]) ?_
        refine st_if0 (by by_cases h2 : r = 1 <;> simp [startN, hr, h2]; omega) ?_
        exact st_ret _ (tupF_ok (consA_ok (toV_ow (callF_ok (consA_ok (toV_ow (dspw (v := .int (v - 7)) rfl)) rfl) (cleanW nm (v - 7)))) (consA_ok (toV_ow (dspk (v := .int 7) rfl)) rfl)) (by show 2 ≤ 100000; decide))
      obtain ⟨nm, e⟩ := e
      refine ⟨_, _, congrArg outR e, ?_⟩
      have h3 := valW nm (v - 7) 7
      rw [show (7 : Int) + (v - 7) = v by omega] at h3
      exact h3
end RL

namespace RL
open PySem PySem.Spec PyProof.Rows L2 Mp
open Mp (D Sem)
theorem st_setX {i : Nat} {f : Rho → R (D × Rho)} {t : Sem} {n : Nat} {ρ : Rho} {o : Out} (d : D) (ρ1 ρ' : Rho) (h : f ρ = .ok (d, ρ1)) (hρ : ρ1.set i (.fz d) = ρ') (k : t n ρ' = o) : sSeq (sSetX i f) t n ρ = o := by
  rw [← k, ← hρ]
  have e : sSetX i f n ρ = .nx (ρ1.set i (.fz d)) := by
    unfold sSetX
    rw [h]
  unfold sSeq
  rw [e]; rfl
theorem takeP {l : List D} (h : Dr l) (hl : l.length ≤ 90000) (c : Nat) : ∃ (v : Int) (c' : Nat), 0 ≤ v ∧ v < 1000 ∧ ∀ (ρ : Rho) (p : Addr), ρ[1]? = some (.fz (.lst l)) → ρ[2]? = some (.ow (.cel p [(c : Int)])) → callP 2 mi__law_take (consA (toV (rdF 1)) nilA) ρ = .ok (.int v, ρ.set 2 (.ow (.cel p [(c' : Int)]))) := by
  obtain ⟨v, c', hv, e⟩ := take_ok h hl c
  refine ⟨v, c', by omega, by omega, fun ρ p h1 h2 => ?_⟩
  have e1 : toV (rdF 1) ρ = .ok (.lst l) := by unfold toV rdF; rw [h1]; rfl
  unfold callP
  rw [consA_ok e1 (nilQ _), R.bind_ok, h2]
  show (mi__law_take [.lst l] [(c : Int)]).bind _ = _
  rw [e]; rfl
theorem pickD (is : List Int) (j : Nat) (hj : j < is.length) : ∃ x ∈ is, ixD (.tup (is.map .int)) (.int (j : Int)) = .ok (.int x) ∧ ixD (.lst (is.map .int)) (.int (j : Int)) = .ok (.int x) := by
  have hat : atI (is.map D.int) (j : Int) = some (.int is[j]) := atI_nat (by simp [hj])
  refine ⟨is[j], List.getElem_mem hj, ?_, ?_⟩
  · show (match atI (is.map D.int) (j : Int) with | some d => R.ok d | none => .no) = _
    rw [hat]
  · show (match atI (is.map D.int) (j : Int) with | some d => R.ok d | none => .no) = _
    rw [hat]
theorem pickF (is : List Int) (i : Int) (h0 : 0 ≤ i) (hj : i < is.length) (hl : is.length ≤ 100000) : ∃ x ∈ is, ∀ {fs : Rho → R (List D)} {g : Rho → R D} {ρ : Rho}, fs ρ = .ok (is.map .int) → g ρ = .ok (.int i) → ixF (toV (tupF fs)) g ρ = .ok (.fz (.int x)) := by
  obtain ⟨j, rfl⟩ := Int.eq_ofNat_of_zero_le h0
  obtain ⟨x, hx, e, _⟩ := pickD is j (by omega)
  refine ⟨x, hx, fun {fs g ρ} h hg => ?_⟩
  have e1 : toV (tupF fs) ρ = .ok (.tup (is.map .int)) := toV_fz (tupF_ok h (by simpa using hl))
  unfold ixF
  rw [e1, R.bind_ok, hg, R.bind_ok, e]; rfl
theorem pickX {m : Rho → R Sl} {l : List D} (h : Dr l) (hl : l.length ≤ 90000) (c : Nat) (is : List Int) (w : Int) (hw : w = is.length) (h0 : 0 < w) (lt : Bool) : ∃ x ∈ is, ∃ c' : Nat, ∀ (ρ : Rho) (p : Addr), toV m ρ = .ok (if lt then .lst (is.map .int) else .tup (is.map .int)) → ρ[1]? = some (.fz (.lst l)) → ρ[2]? = some (.ow (.cel p [(c : Int)])) →
    ixX (xOf m) (op2X modD (callP 2 mi__law_take (consA (toV (rdF 1)) nilA)) (xOf (toF (cV (.int w))))) ρ = .ok (.int x, ρ.set 2 (.ow (.cel p [(c' : Int)]))) := by
  obtain ⟨v, c', hv, hv2, e⟩ := takeP h hl c
  obtain ⟨j, hj⟩ : ∃ j : Nat, v % w = (j : Int) := ⟨(v % w).toNat, by have := Int.emod_nonneg v (show w ≠ 0 by omega); omega⟩
  have hj2 : j < is.length := by
    have := Int.emod_lt_of_pos v h0
    omega
  obtain ⟨x, hx, e1, e2⟩ := pickD is j hj2
  refine ⟨x, hx, c', fun ρ p h1 h2 h3 => ?_⟩
  have em : modD (.int v) (.int w) = .ok (.int (v % w)) := by simp [modD]; omega
  have e3 := e ρ p h2 h3
  unfold ixX xOf op2X
  rw [h1, R.bind_ok, R.bind_ok, e3, R.bind_ok]
  show (((R.ok (D.int w)).bind fun d => R.ok (d, ρ.set 2 (.ow (.cel p [(c' : Int)])))).bind fun b => (modD (.int v) b.1).bind fun d => if flatD d then R.ok (d, b.2) else .no).bind (fun b => (ixD (if lt = true then .lst (is.map .int) else .tup (is.map .int)) b.1).bind fun d => R.ok (d, b.2)) = _
  rw [R.bind_ok, R.bind_ok]
  show ((modD (.int v) (.int w)).bind _).bind _ = _
  rw [em, R.bind_ok, hj]
  show (R.ok (D.int (j : Int), ρ.set 2 (.ow (.cel p [(c' : Int)])))).bind _ = _
  rw [R.bind_ok]
  cases lt with
  | true => show (ixD (.lst (is.map .int)) (.int (j : Int))).bind _ = _; rw [e2]; rfl
  | false => show (ixD (.tup (is.map .int)) (.int (j : Int))).bind _ = _; rw [e1]; rfl
/-- kind 0 -/
theorem of0 {l : List D} (h : Dr l) (hl : l.length ≤ 90000) (c : Nat) : ∃ (a : Int) (c' : Nat), mi__law_numbers_of [.int 0, .lst l] [(c : Int)] = .ok (.lst [.int a], [(c' : Int)]) := by
  obtain ⟨v1, c1, h11, h12, e1⟩ := takeP h hl c
  obtain ⟨v2, c2, h21, h22, e2⟩ := takeP h hl c1
  obtain ⟨b, hb, c3, e3⟩ := pickX (m := tupF (consA (toV (toF (cV (.int 0)))) (consA (toV (toF (cV (.int 0)))) (consA (toV (toF (cV (.int 0)))) (consA (toV (toF (cV (.int 1)))) (consA (toV (toF (op1 negD (cV (.int 1))))) (consA (toV (toF (cV (.int 0)))) (nilA)))))))) h hl c2 [0, 0, 0, 1, -1, 0] 6 rfl (by decide) false
  have d5 : 0 ≤ v2 % 5 ∧ v2 % 5 < 5 := by omega
  obtain ⟨a, ha, e4⟩ := pickF [0, 0, 1, -1, v1] (v2 % 5) d5.1 d5.2 (by show 5 ≤ 100000; decide)
  refine ⟨a, c3, comR_eq fun p => ?_⟩
  have e : B__law_numbers_of 1000000 (startP 13 [.int 0, .lst l] p [(c : Int)]) = .rt (.io (.lst [.int a]) p [(c3 : Int)]) := by
    unfold B__law_numbers_of
    refine st_setX _ _ [.fz (.int 0), .fz (.lst l), .ow (.cel p [(c1 : Int)]), .fz (.int v1), .un, .un, .un, .un, .un, .un, .un, .un, .un] (e1 _ p rfl rfl) rfl ?_
    refine st_setX _ _ [.fz (.int 0), .fz (.lst l), .ow (.cel p [(c2 : Int)]), .fz (.int v1), .fz (.int v2), .un, .un, .un, .un, .un, .un, .un, .un] (e2 _ p rfl rfl) rfl ?_
    refine st_setX _ _ [.fz (.int 0), .fz (.lst l), .ow (.cel p [(c3 : Int)]), .fz (.int v1), .fz (.int v2), .fz (.int b), .un, .un, .un, .un, .un, .un, .un] (e3 _ p (toV_fz (tupF_ok rfl (by decide))) rfl rfl) rfl ?_
    refine st_ifT (by simp) (oSeq_is ?_)
    have e5 := e4 (fs := consA (toV (toF (cV (.int 0)))) (consA (toV (toF (cV (.int 0)))) (consA (toV (toF (cV (.int 1)))) (consA (toV (toF (op1 negD (cV (.int 1))))) (consA (toV (rdF 3)) (nilA)))))) (g := op2 modD (rdV 4) (cV (.int 5))) (ρ := [.fz (.int 0), .fz (.lst l), .ow (.cel p [(c3 : Int)]), .fz (.int v1), .fz (.int v2), .fz (.int b), .un, .un, .un, .un, .un, .un, .un]) rfl (by simp)
    show rOut _ (toV (lstF _) _) _ = _
    rw [toV_ow (lstF_ok (consA_ok (toV_fz e5) rfl) (by show 1 ≤ 100000; decide)), rOut_ok]
    rfl
  rw [e]
  exact if_pos rfl
/-- kind 1 -/
def gr (a b : Int) : Nat → Int
  | 0 => a * 1000 + b
  | j + 1 => gr a b j * 999983 + b + (j : Int)
theorem gr_b {a b : Int} (h1 : 0 ≤ a) (h2 : a < 1000) (h3 : 0 ≤ b) (h4 : b < 1000) : ∀ j : Nat, j ≤ 100 → 0 ≤ gr a b j ∧ gr a b j < ((2 ^ (20 * (j + 1)) : Nat) : Int)
  | 0, _ => by
    unfold gr
    rw [show (2 ^ (20 * (0 + 1)) : Nat) = 1048576 from rfl]
    omega
  | j + 1, hj => by
    obtain ⟨h5, h6⟩ := gr_b h1 h2 h3 h4 j (by omega)
    have e : (2 ^ (20 * (j + 1 + 1)) : Nat) = 2 ^ (20 * (j + 1)) * 1048576 := by rw [show 20 * (j + 1 + 1) = 20 * (j + 1) + 20 by omega, Nat.pow_add]
    have hp : 0 < (2 ^ (20 * (j + 1)) : Nat) := Nat.pow_pos (by decide)
    unfold gr
    rw [e]
    generalize (2 ^ (20 * (j + 1)) : Nat) = w at *
    generalize gr a b j = g at *
    omega
theorem of1 {l : List D} (h : Dr l) (hl : l.length ≤ 90000) (c : Nat) : ∃ (x y : Int) (c' : Nat), x < 2 ^ 3000 ∧ mi__law_numbers_of [.int 1, .lst l] [(c : Int)] = .ok (.lst [.int x, .int y], [(c' : Int)]) := by
  obtain ⟨v1, c1, h11, h12, e1⟩ := takeP h hl c
  obtain ⟨v2, c2, h21, h22, e2⟩ := takeP h hl c1
  obtain ⟨b, hb, c3, e3⟩ := pickX (m := tupF (consA (toV (toF (cV (.int 0)))) (consA (toV (toF (cV (.int 0)))) (consA (toV (toF (cV (.int 0)))) (consA (toV (toF (cV (.int 1)))) (consA (toV (toF (op1 negD (cV (.int 1))))) (consA (toV (toF (cV (.int 0)))) (nilA)))))))) h hl c2 [0, 0, 0, 1, -1, 0] 6 rfl (by decide) false
  have hb2 : -1 ≤ b ∧ b ≤ 1 := by simp at hb; omega
  obtain ⟨B, hB⟩ : ∃ B : Int, (2 : Int) ^ 3000 = B := ⟨_, rfl⟩
  have hB1 : ((2 ^ 2020 : Nat) : Int) < B := by
    rw [← hB, show (2 : Int) ^ 3000 = ((2 ^ 3000 : Nat) : Int) by rw [Int.natCast_pow]; rfl]
    exact Int.ofNat_lt.mpr (Nat.pow_lt_pow_right (by decide) (by decide))
  have hB2 : ((2 ^ 20 : Nat) : Int) ≤ ((2 ^ 2020 : Nat) : Int) := Int.ofNat_le.mpr (Nat.pow_le_pow_right (by decide) (by decide))
  rw [show (2 ^ 20 : Nat) = 1048576 from rfl] at hB2
  obtain ⟨g, hg0, hg, eg⟩ : ∃ g : Int, 0 ≤ g ∧ g < B - 1 ∧ ∀ p : Addr, ∃ s12, (sIf (toT (op2 eqD (op2 modD (rdV 4) (cV (.int 7))) (cV (.int 3)))) (sFor (rng1 (consA (cV (.int 100)) (nilA))) (gN 12) L1__law_numbers_of) (sNil)) 1000000 [.fz (.int 1), .fz (.lst l), .ow (.cel p [(c3 : Int)]), .fz (.int v1), .fz (.int v2), .fz (.int b), .un, .un, .un, .fz (.int (v1 * 1000 + v2)), .un, .un, .un] = .nx [.fz (.int 1), .fz (.lst l), .ow (.cel p [(c3 : Int)]), .fz (.int v1), .fz (.int v2), .fz (.int b), .un, .un, .un, .fz (.int g), .un, .un, s12] := by
    have r100 : rngOk 100 = true := rngOk_small (by decide) (by decide)
    by_cases h3 : v2 % 7 = 3
    · refine ⟨gr v1 v2 100, (gr_b h11 h12 h21 h22 100 (Nat.le_refl _)).1, ?_, fun p => ?_⟩
      · have := (gr_b h11 h12 h21 h22 100 (Nat.le_refl _)).2
        rw [show (20 * (100 + 1)) = 2020 from rfl] at this
        generalize ((2 ^ 2020 : Nat) : Int) = w at *
        omega
      · obtain ⟨ρ, eρ, s12, rfl⟩ := sLoop_P (g := gN 12) (b := L1__law_numbers_of) (n := 1000000) (fun j ρ => ∃ s12, ρ = [.fz (.int 1), .fz (.lst l), .ow (.cel p [(c3 : Int)]), .fz (.int v1), .fz (.int v2), .fz (.int b), .un, .un, .un, .fz (.int (gr v1 v2 j)), .un, .un, s12])
          (ds := rngL 0 100) (ρ := [.fz (.int 1), .fz (.lst l), .ow (.cel p [(c3 : Int)]), .fz (.int v1), .fz (.int v2), .fz (.int b), .un, .un, .un, .fz (.int (gr v1 v2 0)), .un, .un, .un]) ⟨.un, rfl⟩ fun j d' ρ hj h => by
          obtain ⟨rfl, hj2⟩ := rngL_get hj
          obtain ⟨s12, rfl⟩ := h
          simp only [gN, RP_ok, List.set_cons_succ, List.set_cons_zero]
          have m1 : ∀ z : Int, mulOk z 999983 = true := fun z => mulOk_r (by decide) (by decide)
          have e2 : L1__law_numbers_of 1000000 [.fz (.int 1), .fz (.lst l), .ow (.cel p [(c3 : Int)]), .fz (.int v1), .fz (.int v2), .fz (.int b), .un, .un, .un, .fz (.int (gr v1 v2 j)), .un, .un, .fz (.int (0 + (j : Nat)))] = .nx [.fz (.int 1), .fz (.lst l), .ow (.cel p [(c3 : Int)]), .fz (.int v1), .fz (.int v2), .fz (.int b), .un, .un, .un, .fz (.int (gr v1 v2 (j + 1))), .un, .un, .fz (.int (0 + (j : Nat)))] := by
            have e : gr v1 v2 (j + 1) = gr v1 v2 j * 999983 + v2 + (j : Int) := rfl
            rw [e, Int.zero_add]
            generalize gr v1 v2 j = w
            unfold L1__law_numbers_of
            simp [m1]
          rw [e2, NxP_nx]
          exact ⟨_, rfl⟩
        refine ⟨s12, (ifT_yes (by simp [h3])).trans ?_⟩
        show rOut _ (rng1 (consA (cV (.int 100)) (nilA)) _) _ = _
        rw [show ∀ ρ, rng1 (consA (cV (.int 100)) (nilA)) ρ = .ok (rngL 0 100) by intro ρ; simp [r100], rOut_ok]
        exact eρ
    · exact ⟨gr v1 v2 0, by unfold gr; omega, by unfold gr; omega, fun p => ⟨.un, ifT_no (by simp [h3])⟩⟩
  obtain ⟨x, hx, c4, e4⟩ := pickX (m := lstF (consA (toV (rdF 9)) (consA (toV (toF (op2 divD (rdV 9) (cV (.int 2))))) (consA (toV (toF (op2 mulD (rdV 3) (cV (.int 1000))))) (consA (toV (toF (op2 modD (rdV 4) (cV (.int 8))))) (consA (toV (toF (op1 negD (cV (.int 1))))) (consA (toV (toF (op2 addD (rdV 9) (cV (.int 1))))) (consA (toV (toF (op2 subD (op2 divD (rdV 9) (cV (.int 2))) (op2 divD (rdV 9) (cV (.int 4)))))) (nilA))))))))) h hl c3 [g, g / 2, v1 * 1000, v2 % 8, -1, g + 1, g / 2 - g / 4] 7 rfl (by decide) true
  have d5 : 0 ≤ v2 / 8 % 5 ∧ v2 / 8 % 5 < 5 := by omega
  obtain ⟨y, hy, e5⟩ := pickF [g, g, 0, -3, 1152921504606846975] (v2 / 8 % 5) d5.1 d5.2 (by show 5 ≤ 100000; decide)
  have m1 : ∀ z : Int, mulOk z 1000 = true := fun z => mulOk_r (by decide) (by decide)
  have dv : ∀ z w : Int, 0 < w → w < 1073741824 → divOk z w = true := fun z w => divOk_small
  have dv2 := fun z => dv z 2 (by decide) (by decide)
  have dv4 := fun z => dv z 4 (by decide) (by decide)
  have dv8 := fun z => dv z 8 (by decide) (by decide)
  have p60 : powOk 2 60 = true := powOk_small (by decide) (by decide) (by decide)
  refine ⟨x, y, c4, ?_, comR_eq fun p => ?_⟩
  · rw [hB]
    generalize ((2 ^ 2020 : Nat) : Int) = w at *
    simp at hx
    omega
  have e : B__law_numbers_of 1000000 (startP 13 [.int 1, .lst l] p [(c : Int)]) = .rt (.io (.lst [.int x, .int y]) p [(c4 : Int)]) := by
    unfold B__law_numbers_of
    refine st_setX _ _ [.fz (.int 1), .fz (.lst l), .ow (.cel p [(c1 : Int)]), .fz (.int v1), .un, .un, .un, .un, .un, .un, .un, .un, .un] (e1 _ p rfl rfl) rfl ?_
    refine st_setX _ _ [.fz (.int 1), .fz (.lst l), .ow (.cel p [(c2 : Int)]), .fz (.int v1), .fz (.int v2), .un, .un, .un, .un, .un, .un, .un, .un] (e2 _ p rfl rfl) rfl ?_
    refine st_setX _ _ [.fz (.int 1), .fz (.lst l), .ow (.cel p [(c3 : Int)]), .fz (.int v1), .fz (.int v2), .fz (.int b), .un, .un, .un, .un, .un, .un, .un] (e3 _ p (toV_fz (tupF_ok rfl (by decide))) rfl rfl) rfl ?_
    refine st_if0 (by simp) ?_
    refine st_ifT (by simp) (oSeq_is ?_)
    refine st_set (.fz (.int (v1 * 1000 + v2))) [.fz (.int 1), .fz (.lst l), .ow (.cel p [(c3 : Int)]), .fz (.int v1), .fz (.int v2), .fz (.int b), .un, .un, .un, .fz (.int (v1 * 1000 + v2)), .un, .un, .un] (by simp [m1]) rfl ?_
    obtain ⟨s12, eg⟩ := eg p
    refine st_nx _ eg ?_
    refine st_setX _ _ [.fz (.int 1), .fz (.lst l), .ow (.cel p [(c4 : Int)]), .fz (.int v1), .fz (.int v2), .fz (.int b), .un, .un, .un, .fz (.int g), .fz (.int x), .un, s12] (e4 _ p (toV_ow (lstF_ok (by simp [m1, dv2, dv4, dv8]) (by show 7 ≤ 100000; decide))) rfl rfl) rfl ?_
    have e6 := e5 (fs := consA (toV (rdF 9)) (consA (toV (rdF 9)) (consA (toV (toF (cV (.int 0)))) (consA (toV (toF (op1 negD (cV (.int 3))))) (consA (toV (toF (op2 subD (op2 powD (cV (.int 2)) (cV (.int 60))) (cV (.int 1))))) (nilA)))))) (g := op2 modD (op2 divD (rdV 4) (cV (.int 8))) (cV (.int 5))) (ρ := [.fz (.int 1), .fz (.lst l), .ow (.cel p [(c4 : Int)]), .fz (.int v1), .fz (.int v2), .fz (.int b), .un, .un, .un, .fz (.int g), .fz (.int x), .un, s12]) (by simp [p60]) (by simp [dv8])
    show rOut _ (toV (lstF _) _) _ = _
    rw [toV_ow (lstF_ok (consA_ok rfl (consA_ok (toV_fz e6) rfl)) (by show 2 ≤ 100000; decide)), rOut_ok]
    rfl
  rw [e]
  exact if_pos rfl
/-- kind 2 -/
def pw (b : Int) : Nat → Int
  | 0 => 1
  | j + 1 => pw b j * b
theorem of2 {l : List D} (h : Dr l) (hl : l.length ≤ 90000) (c : Nat) : ∃ (z x y : Int) (c' : Nat), x ≤ 1000 ∧ (y ≤ 600 ∨ (Builtin.Int.intBits z : Int) < y) ∧ mi__law_numbers_of [.int 2, .lst l] [(c : Int)] = .ok (.lst [.int z, .int x, .int y], [(c' : Int)]) := by
  obtain ⟨v1, c1, h11, h12, e1⟩ := takeP h hl c
  obtain ⟨v2, c2, h21, h22, e2⟩ := takeP h hl c1
  obtain ⟨b, hb, c3, e3⟩ := pickX (m := tupF (consA (toV (toF (cV (.int 0)))) (consA (toV (toF (cV (.int 0)))) (consA (toV (toF (cV (.int 0)))) (consA (toV (toF (cV (.int 1)))) (consA (toV (toF (op1 negD (cV (.int 1))))) (consA (toV (toF (cV (.int 0)))) (nilA)))))))) h hl c2 [0, 0, 0, 1, -1, 0] 6 rfl (by decide) false
  have hb2 : -1 ≤ b ∧ b ≤ 1 := by simp at hb; omega
  have dv : ∀ z w : Int, 0 < w → w < 1073741824 → divOk z w = true := fun z w => divOk_small
  have dv7 := fun z => dv z 7 (by decide) (by decide)
  have dv12 := fun z => dv z 12 (by decide) (by decide)
  have p30 : powOk 10 30 = true := powOk_small (by decide) (by decide) (by decide)
  have d7 : 0 ≤ v1 / 7 % 7 ∧ v1 / 7 % 7 < 7 := by omega
  obtain ⟨x, hx, e5⟩ := pickF [0, 1, 2, 3, v1, 10, -2] (v1 / 7 % 7) d7.1 d7.2 (by show 7 ≤ 100000; decide)
  have d8 : 0 ≤ v2 / 12 % 8 ∧ v2 / 12 % 8 < 8 := by omega
  obtain ⟨y, hy, e6⟩ := pickF [0, 1, 2, 3, v2 % 12, 100 + v2 % 300, 1000000000000000000000000000000, -1] (v2 / 12 % 8) d8.1 d8.2 (by show 8 ≤ 100000; decide)
  have hx2 : -2 ≤ x ∧ x < 1000 := by simp at hx; omega
  have hy2 : y ≤ 400 ∨ y = 1000000000000000000000000000000 := by simp at hy; omega
  obtain ⟨z, hz, ez⟩ : ∃ z : Int, (y ≤ 400 ∨ z = v1) ∧ ∀ p : Addr, ∃ s12, (sIf (andT (toT (op2 ltD (rdV 11) (cV (.int 600)))) (toT (op2 geD (rdV 11) (cV (.int 0))))) (sSeq (sSet 8 (toF (cV (.int 1)))) (sFor (rng1 (consA (rdV 11) (nilA))) (gN 12) L2__law_numbers_of)) (sNil)) 1000000 [.fz (.int 2), .fz (.lst l), .ow (.cel p [(c3 : Int)]), .fz (.int v1), .fz (.int v2), .fz (.int b), .fz (.int x), .un, .fz (.int v1), .un, .un, .fz (.int y), .un] = .nx [.fz (.int 2), .fz (.lst l), .ow (.cel p [(c3 : Int)]), .fz (.int v1), .fz (.int v2), .fz (.int b), .fz (.int x), .un, .fz (.int z), .un, .un, .fz (.int y), s12] := by
    by_cases h3 : y < 600 ∧ 0 ≤ y
    · have ry : rngOk y = true := rngOk_small (by omega) (by omega)
      refine ⟨pw x (y - 0).toNat, .inl (by omega), fun p => ?_⟩
      obtain ⟨ρ, eρ, s12, rfl⟩ := sLoop_P (g := gN 12) (b := L2__law_numbers_of) (n := 1000000) (fun j ρ => ∃ s12, ρ = [.fz (.int 2), .fz (.lst l), .ow (.cel p [(c3 : Int)]), .fz (.int v1), .fz (.int v2), .fz (.int b), .fz (.int x), .un, .fz (.int (pw x j)), .un, .un, .fz (.int y), s12])
        (ds := rngL 0 y) (ρ := [.fz (.int 2), .fz (.lst l), .ow (.cel p [(c3 : Int)]), .fz (.int v1), .fz (.int v2), .fz (.int b), .fz (.int x), .un, .fz (.int (pw x 0)), .un, .un, .fz (.int y), .un]) ⟨.un, rfl⟩ fun j d' ρ hj h => by
        obtain ⟨rfl, hj2⟩ := rngL_get hj
        obtain ⟨s12, rfl⟩ := h
        simp only [gN, RP_ok, List.set_cons_succ, List.set_cons_zero]
        have m1 : ∀ z : Int, mulOk z x = true := fun z => mulOk_r (by omega) (by omega)
        have e2 : L2__law_numbers_of 1000000 [.fz (.int 2), .fz (.lst l), .ow (.cel p [(c3 : Int)]), .fz (.int v1), .fz (.int v2), .fz (.int b), .fz (.int x), .un, .fz (.int (pw x j)), .un, .un, .fz (.int y), .fz (.int (0 + (j : Nat)))] = .nx [.fz (.int 2), .fz (.lst l), .ow (.cel p [(c3 : Int)]), .fz (.int v1), .fz (.int v2), .fz (.int b), .fz (.int x), .un, .fz (.int (pw x (j + 1))), .un, .un, .fz (.int y), .fz (.int (0 + (j : Nat)))] := by
          have e : pw x (j + 1) = pw x j * x := rfl
          rw [e, Int.zero_add]
          generalize pw x j = w
          unfold L2__law_numbers_of
          simp [m1]
        rw [e2, NxP_nx]
        exact ⟨_, rfl⟩
      rw [rngL_len] at eρ
      refine ⟨s12, (ifT_yes (by simp [h3.1, h3.2])).trans ?_⟩
      refine st_set (.fz (.int 1)) [.fz (.int 2), .fz (.lst l), .ow (.cel p [(c3 : Int)]), .fz (.int v1), .fz (.int v2), .fz (.int b), .fz (.int x), .un, .fz (.int 1), .un, .un, .fz (.int y), .un] rfl rfl ?_
      show rOut _ (rng1 (consA (rdV 11) (nilA)) _) _ = _
      rw [show rng1 (consA (rdV 11) (nilA)) [.fz (.int 2), .fz (.lst l), .ow (.cel p [(c3 : Int)]), .fz (.int v1), .fz (.int v2), .fz (.int b), .fz (.int x), .un, .fz (.int 1), .un, .un, .fz (.int y), .un] = .ok (rngL 0 y) by simp [ry], rOut_ok]
      exact eρ
    · refine ⟨v1, .inr rfl, fun p => ⟨.un, ifT_no ?_⟩⟩
      by_cases h4 : y < 600
      · have h5 : ¬ 0 ≤ y := fun q => h3 ⟨h4, q⟩
        simp [h4, h5]
      · simp [h4]
  have hbits : Builtin.Int.intBits (v1 + b) ≤ 64 := Sz.bits (Sz.lit (by omega))
  refine ⟨z + b, x, y, c3, by omega, ?_, comR_eq fun p => ?_⟩
  · rcases hz with hz | hz
    · exact .inl (by omega)
    · rcases hy2 with q | q
      · exact .inl (by omega)
      · right
        rw [hz]
        omega
  have e : B__law_numbers_of 1000000 (startP 13 [.int 2, .lst l] p [(c : Int)]) = .rt (.io (.lst [.int (z + b), .int x, .int y]) p [(c3 : Int)]) := by
    unfold B__law_numbers_of
    refine st_setX _ _ [.fz (.int 2), .fz (.lst l), .ow (.cel p [(c1 : Int)]), .fz (.int v1), .un, .un, .un, .un, .un, .un, .un, .un, .un] (e1 _ p rfl rfl) rfl ?_
    refine st_setX _ _ [.fz (.int 2), .fz (.lst l), .ow (.cel p [(c2 : Int)]), .fz (.int v1), .fz (.int v2), .un, .un, .un, .un, .un, .un, .un, .un] (e2 _ p rfl rfl) rfl ?_
    refine st_setX _ _ [.fz (.int 2), .fz (.lst l), .ow (.cel p [(c3 : Int)]), .fz (.int v1), .fz (.int v2), .fz (.int b), .un, .un, .un, .un, .un, .un, .un] (e3 _ p (toV_fz (tupF_ok rfl (by decide))) rfl rfl) rfl ?_
    refine st_if0 (by simp) ?_
    refine st_if0 (by simp) ?_
    refine st_ifT (by simp) (oSeq_is ?_)
    refine st_set (.fz (.int x)) [.fz (.int 2), .fz (.lst l), .ow (.cel p [(c3 : Int)]), .fz (.int v1), .fz (.int v2), .fz (.int b), .fz (.int x), .un, .un, .un, .un, .un, .un] (e5 (by simp) (by simp [dv7])) rfl ?_
    refine st_set (.fz (.int y)) [.fz (.int 2), .fz (.lst l), .ow (.cel p [(c3 : Int)]), .fz (.int v1), .fz (.int v2), .fz (.int b), .fz (.int x), .un, .un, .un, .un, .fz (.int y), .un] (e6 (by simp [p30]) (by simp [dv12])) rfl ?_
    refine st_set (.fz (.int v1)) [.fz (.int 2), .fz (.lst l), .ow (.cel p [(c3 : Int)]), .fz (.int v1), .fz (.int v2), .fz (.int b), .fz (.int x), .un, .fz (.int v1), .un, .un, .fz (.int y), .un] rfl rfl ?_
    obtain ⟨s12, ez⟩ := ez p
    refine st_nx _ ez ?_
    show rOut _ (toV (lstF _) _) _ = _
    rw [toV_ow (lstF_ok (ds := [.int (z + b), .int x, .int y]) (by simp) (by show 3 ≤ 100000; decide)), rOut_ok]
    rfl
  rw [e]
  exact if_pos rfl
/-- kind 3 -/
theorem of3 {l : List D} (h : Dr l) (hl : l.length ≤ 90000) (c : Nat) : ∃ (y n a : Int) (c' : Nat), -1 ≤ n ∧ a < 1000000000 ∧ (n < 300 ∨ (9223372036854775808 ≤ n ∧ y < n)) ∧ mi__law_numbers_of [.int 3, .lst l] [(c : Int)] = .ok (.lst [.int y, .int n, .int a], [(c' : Int)]) := by
  obtain ⟨v1, c1, h11, h12, e1⟩ := takeP h hl c
  obtain ⟨v2, c2, h21, h22, e2⟩ := takeP h hl c1
  obtain ⟨b, hb, c3, e3⟩ := pickX (m := tupF (consA (toV (toF (cV (.int 0)))) (consA (toV (toF (cV (.int 0)))) (consA (toV (toF (cV (.int 0)))) (consA (toV (toF (cV (.int 1)))) (consA (toV (toF (op1 negD (cV (.int 1))))) (consA (toV (toF (cV (.int 0)))) (nilA)))))))) h hl c2 [0, 0, 0, 1, -1, 0] 6 rfl (by decide) false
  have hb2 : -1 ≤ b ∧ b ≤ 1 := by simp at hb; omega
  have dv : ∀ z w : Int, 0 < w → w < 1073741824 → divOk z w = true := fun z w => divOk_small
  have dv6 := fun z => dv z 6 (by decide) (by decide)
  have dv14 := fun z => dv z 14 (by decide) (by decide)
  have p30 : powOk 10 30 = true := powOk_small (by decide) (by decide) (by decide)
  have d7 : 0 ≤ v1 / 6 % 6 ∧ v1 / 6 % 6 < 6 := by omega
  obtain ⟨a, ha, e5⟩ := pickF [2, 3, 4, v1, 1, 0] (v1 / 6 % 6) d7.1 d7.2 (by show 6 ≤ 100000; decide)
  have d8 : 0 ≤ v2 / 14 % 8 ∧ v2 / 14 % 8 < 8 := by omega
  obtain ⟨n, hn, e6⟩ := pickF [0, 1, 2, 3, v2 % 14, 100 + v2 % 101, 1000000000000000000000000000000, -1] (v2 / 14 % 8) d8.1 d8.2 (by show 8 ≤ 100000; decide)
  have ha2 : 0 ≤ a ∧ a < 1000 := by simp at ha; omega
  have hn2 : (-1 ≤ n ∧ n < 300) ∨ n = 1000000000000000000000000000000 := by simp at hn; omega
  obtain ⟨z, hz, ez⟩ : ∃ z : Int, (n < 300 ∨ z = v2) ∧ ∀ p : Addr, (sIf (chainT leD ltD (cV (.int 0)) (rdV 7) (cV (.int 300))) (sSet 8 (callF mi__law_member (consA (toV (rdF 7)) (consA (toV (rdF 6)) (nilA))))) (sNil)) 1000000 [.fz (.int 3), .fz (.lst l), .ow (.cel p [(c3 : Int)]), .fz (.int v1), .fz (.int v2), .fz (.int b), .fz (.int a), .fz (.int n), .fz (.int v2), .un, .un, .un, .un] = .nx [.fz (.int 3), .fz (.lst l), .ow (.cel p [(c3 : Int)]), .fz (.int v1), .fz (.int v2), .fz (.int b), .fz (.int a), .fz (.int n), .fz (.int z), .un, .un, .un, .un] := by
    by_cases h3 : 0 ≤ n ∧ n < 300
    · obtain ⟨k, rfl⟩ := Int.eq_ofNat_of_zero_le h3.1
      refine ⟨PM.Y a k, .inl h3.2, fun p => ?_⟩
      have e := member_ok (n := k) (a := a) (by omega) (by omega) (by omega)
      refine (ifT_yes (by simp; omega)).trans ?_
      show rOut _ (callF mi__law_member (consA (toV (rdF 7)) (consA (toV (rdF 6)) (nilA))) _) _ = _
      rw [callF_ok (consA_ok rfl (consA_ok rfl rfl)) e, rOut_ok]
      rfl
    · refine ⟨v2, by omega, fun p => ifT_no ?_⟩
      by_cases h4 : 0 ≤ n
      · have h5 : ¬ n < 300 := fun q => h3 ⟨h4, q⟩
        simp [h4, h5]
      · simp [h4]
  refine ⟨z + b, n, a, c3, by omega, by omega, ?_, comR_eq fun p => ?_⟩
  · omega
  have e : B__law_numbers_of 1000000 (startP 13 [.int 3, .lst l] p [(c : Int)]) = .rt (.io (.lst [.int (z + b), .int n, .int a]) p [(c3 : Int)]) := by
    unfold B__law_numbers_of
    refine st_setX _ _ [.fz (.int 3), .fz (.lst l), .ow (.cel p [(c1 : Int)]), .fz (.int v1), .un, .un, .un, .un, .un, .un, .un, .un, .un] (e1 _ p rfl rfl) rfl ?_
    refine st_setX _ _ [.fz (.int 3), .fz (.lst l), .ow (.cel p [(c2 : Int)]), .fz (.int v1), .fz (.int v2), .un, .un, .un, .un, .un, .un, .un, .un] (e2 _ p rfl rfl) rfl ?_
    refine st_setX _ _ [.fz (.int 3), .fz (.lst l), .ow (.cel p [(c3 : Int)]), .fz (.int v1), .fz (.int v2), .fz (.int b), .un, .un, .un, .un, .un, .un, .un] (e3 _ p (toV_fz (tupF_ok rfl (by decide))) rfl rfl) rfl ?_
    refine st_if0 (by simp) ?_
    refine st_if0 (by simp) ?_
    refine st_if0 (by simp) ?_
    refine st_set (.fz (.int a)) [.fz (.int 3), .fz (.lst l), .ow (.cel p [(c3 : Int)]), .fz (.int v1), .fz (.int v2), .fz (.int b), .fz (.int a), .un, .un, .un, .un, .un, .un] (e5 (by simp) (by simp [dv6])) rfl ?_
    refine st_set (.fz (.int n)) [.fz (.int 3), .fz (.lst l), .ow (.cel p [(c3 : Int)]), .fz (.int v1), .fz (.int v2), .fz (.int b), .fz (.int a), .fz (.int n), .un, .un, .un, .un, .un] (e6 (by simp [p30]) (by simp [dv14])) rfl ?_
    refine st_set (.fz (.int v2)) [.fz (.int 3), .fz (.lst l), .ow (.cel p [(c3 : Int)]), .fz (.int v1), .fz (.int v2), .fz (.int b), .fz (.int a), .fz (.int n), .fz (.int v2), .un, .un, .un, .un] rfl rfl ?_
    refine st_nx _ (ez p) ?_
    show rOut _ (toV (lstF _) _) _ = _
    rw [toV_ow (lstF_ok (ds := [.int (z + b), .int n, .int a]) (by simp) (by show 3 ≤ 100000; decide)), rOut_ok]
    rfl
  rw [e]
  exact if_pos rfl
end RL

namespace RL
open PySem PySem.Spec PyProof.Rows L2 Mp PM
open Mp (D Sem)
theorem andV_y {f g : Rho → R D} {ρ : Rho} {r : R D} (h : f ρ = .ok (.bl true)) (h2 : g ρ = r) : andV f g ρ = r := by
  unfold andV
  rw [toT_ok h, R.bind_ok, if_pos rfl, h2]
theorem andV_n {f g : Rho → R D} {ρ : Rho} (h : f ρ = .ok (.bl false)) : andV f g ρ = .ok (.bl false) := by
  unfold andV
  rw [toT_ok h, R.bind_ok, if_neg Bool.false_ne_true]
theorem andV_d {f g : Rho → R D} {ρ : Rho} {P Q : Prop} [Decidable P] [Decidable Q] (h : f ρ = .ok (.bl (decide P))) (h2 : P → g ρ = .ok (.bl (decide Q))) : andV f g ρ = .ok (.bl (decide (P ∧ Q))) := by
  by_cases hp : P
  · rw [decide_eq_true hp] at h
    rw [andV_y h (h2 hp)]
    exact congrArg (fun b => R.ok (D.bl b)) (decide_eq_decide.mpr ⟨fun q => ⟨hp, q⟩, fun q => q.2⟩)
  · rw [decide_eq_false hp] at h
    rw [andV_n h, decide_eq_false fun q => hp q.1]
theorem eqR_str {i j : Str} (hi : PyData.strOk i = true) (hj : PyData.strOk j = true) : eqR (.str i) (.str j) = some (decide (i = j)) := by
  show (if SeqAt.shaped (.str i) && SeqAt.shaped (.str j) then some (PyData.eqv (.str i) (.str j)) else none) = _
  have s1 : ∀ i : Str, PyData.strOk i = true → SeqAt.shaped (.str i) = true := fun i h => by unfold SeqAt.shaped PyData.canLay0 PyData.depth; rw [h]; rfl
  rw [s1 i hi, s1 j hj]
  show some (PyData.eqv _ _) = _
  unfold PyData.eqv
  rw [Bool.beq_eq_decide_eq]
theorem ix_l (ds : List D) (i : Nat) (d : D) (h : ds[i]? = some d) : ixD (.lst ds) (.int (i : Int)) = .ok d := by
  show (match atI ds (i : Int) with | some d => R.ok d | none => .no) = _
  rw [atI_nat h]
theorem ix_t (ds : List D) (i : Nat) (d : D) (h : ds[i]? = some d) : ixD (.tup ds) (.int (i : Int)) = .ok d := by
  show (match atI ds (i : Int) with | some d => R.ok d | none => .no) = _
  rw [atI_nat h]
theorem lc_vals {R0 d s2 : D} : ∀ {ps : List D} {vs : List Int}, ps.map (fun p => mi_value_of [p, d]) = vs.map (fun v => R.ok (Sl.fz (.int v))) → lcL (gN 3) yesT M1_holds [.fz R0, .fz d, .un, .un] ps = .ok (vs.map .int)
  | [], [], _ => rfl
  | [], v :: vs, h => nomatch h
  | p :: ps, [], h => nomatch h
  | p :: ps, v :: vs, h => by
    obtain ⟨h1, h2⟩ := List.cons.inj h
    have ih := lc_vals (R0 := R0) (s2 := s2) h2
    have e1 : toV M1_holds [.fz R0, .fz d, .un, .fz p] = .ok (.int v) := by
      unfold M1_holds
      exact toV_fz (callF_ok (consA_ok rfl (consA_ok rfl rfl)) h1)
    unfold lcL
    show (nox (R.ok ([.fz R0, .fz d, .un, .fz p] : Rho))).bind _ = _
    rw [nox_ok, R.bind_ok, show yesT [.fz R0, .fz d, .un, .fz p] = .ok true from rfl, nox_ok, R.bind_ok, if_pos rfl, e1, nox_ok, R.bind_ok, ih, R.bind_ok, List.map_cons]
theorem lcF_vals {kd : Str} {d : D} {ps : List D} {vs : List Int} (h : ps.map (fun p => mi_value_of [p, d]) = vs.map (fun v => R.ok (Sl.fz (.int v)))) (hl : ps.length ≤ 100000) :
    lcF (seqV (toV (cutF (rdV 0) (oSo (cV (.int 1))) (oNo)))) (gN 3) yesT M1_holds [3] [.fz (.tup (.str kd :: ps)), .fz d, .un, .un] = .ok (.ow (.lst (vs.map .int))) := by
  have e1 : seqV (toV (cutF (rdV 0) (oSo (cV (.int 1))) (oNo))) [.fz (.tup (.str kd :: ps)), .fz d, .un, .un] = .ok ps := by
    have e0 : cutG (.str kd :: ps) (some 1) none = ps := by rw [cutG_drop (by decide)]; rfl
    show slLst (.tup (cutG (.str kd :: ps) (some 1) none)) = _
    rw [e0]; rfl
  unfold lcF
  rw [e1, R.bind_ok, if_pos (by rw [sizeLine_eq]; omega)]
  rw [show wipeR [.fz (.tup (.str kd :: ps)), .fz d, .un, .un] [3] = [.fz (.tup (.str kd :: ps)), .fz d, .un, .un] from rfl, lc_vals (s2 := d) h]
  rfl
theorem kd_is {kd s : Str} {ps : List D} {d : D} {s2 s3 : Sl} {b : Bool} (h1 : PyData.strOk kd = true := by decide +kernel) (h2 : PyData.strOk s = true := by decide +kernel) (h3 : decide (kd = s) = b := by decide +kernel) : toT (op2 eqD (op2 ixD (rdV 0) (cV (.int 0))) (cV (.str s))) [.fz (.tup (.str kd :: ps)), .fz d, s2, s3] = .ok b := by
  rw [← h3]
  exact toT_ok (op2_ok (op2_ok rfl rfl (ix_t _ 0 _ rfl)) rfl (eqD_ok (eqR_str h1 h2)))
theorem fl {f : Rho → R D} {ρ : Rho} {b : Bool} (h : f ρ = .ok (.bl b)) : toF f ρ = .ok (.fz (.bl b)) := toF_ok h
theorem ixF_ok2 {f g : Rho → R D} {ρ : Rho} {a b d : D} (hf : f ρ = .ok a) (hg : g ρ = .ok b) (h : ixD a b = .ok d) : ixF f g ρ = .ok (.fz d) := by
  unfold ixF
  rw [hf, R.bind_ok, hg, R.bind_ok, h]; rfl
theorem holds0 {p d : D} {a : Int} (h : mi_value_of [p, d] = .ok (.fz (.int a))) : mi_holds [.tup [.str "zero", p], d] = .ok (.fz (.bl (decide (a = 0)))) := by
  have e : B_holds 1000000 (startN 4 [.tup [.str "zero", p], d]) = .rt (.fz (.bl (decide (a = 0)))) := by
    unfold B_holds
    refine st_set _ [.fz (.tup [.str "zero", p]), .fz d, .fz (.lst [.int a]), .un] (lcF_vals (kd := "zero") (ps := [p]) (vs := [a]) (by simp [h]) (by show 1 ≤ 100000; decide)) rfl ?_
    refine st_ifT kd_is (oSeq_is ?_)
    exact st_ret _ (fl (op2_ok (op2_ok rfl rfl (ix_l _ 0 _ rfl)) rfl (eqD_ok (eqR_int _ _))))
  exact congrArg outR e
theorem holds1 {p q d : D} {a b : Int} (h : mi_value_of [p, d] = .ok (.fz (.int a))) (h2 : mi_value_of [q, d] = .ok (.fz (.int b))) : mi_holds [.tup [.str "under", p, q], d] = .ok (.fz (.bl (decide (0 ≤ a ∧ 0 ≤ b ∧ Builtin.bitAnd a b = a)))) := by
  have e : B_holds 1000000 (startN 4 [.tup [.str "under", p, q], d]) = .rt (.fz (.bl (decide (0 ≤ a ∧ 0 ≤ b ∧ Builtin.bitAnd a b = a)))) := by
    unfold B_holds
    refine st_set _ [.fz (.tup [.str "under", p, q]), .fz d, .fz (.lst [.int a, .int b]), .un] (lcF_vals (kd := "under") (ps := [p, q]) (vs := [a, b]) (by simp [h, h2]) (by show 2 ≤ 100000; decide)) rfl ?_
    refine st_if0 kd_is ?_
    refine st_ifT kd_is (oSeq_is ?_)
    have hm : lstMin [a, b] = if a < b then a else b := rfl
    have e1 : op2 geD (opL minD (consA (rdV 2) (nilA))) (cV (.int 0)) [.fz (.tup [.str "under", p, q]), .fz d, .fz (.lst [.int a, .int b]), .un] = .ok (.bl (decide (0 ≤ a ∧ 0 ≤ b))) := by
      refine op2_ok (a := .int (lstMin [a, b])) (b := .int 0) (opL_ok (consA_ok rfl rfl) rfl) rfl ?_
      show R.ok (D.bl (decide (0 ≤ lstMin [a, b]))) = _
      rw [hm]
      refine congrArg (fun b => R.ok (D.bl b)) (decide_eq_decide.mpr ?_)
      split <;> omega
    refine st_ret _ (fl ?_)
    rw [andV_d (Q := Builtin.bitAnd a b = a) e1 fun _ => ?_]
    · exact congrArg (fun b => R.ok (D.bl b)) (decide_eq_decide.mpr and_assoc)
    · exact op2_ok (op2_ok (op2_ok rfl rfl (ix_l _ 0 _ rfl)) (op2_ok rfl rfl (ix_l _ 1 _ rfl)) (show andD (.int a) (.int b) = .ok (.int (Builtin.bitAnd a b)) from rfl)) (op2_ok rfl rfl (ix_l _ 0 _ rfl)) (eqD_ok (eqR_int _ _))
  exact congrArg outR e
theorem holds2 {p q r d : D} {z x y : Int} (h : mi_value_of [p, d] = .ok (.fz (.int z))) (h2 : mi_value_of [q, d] = .ok (.fz (.int x))) (h3 : mi_value_of [r, d] = .ok (.fz (.int y))) (hx : x ≤ 1000) (hy : y ≤ 600 ∨ (Builtin.Int.intBits z : Int) < y) :
    mi_holds [.tup [.str "power", p, q, r], d] = .ok (.fz (.bl (decide (0 ≤ x ∧ 0 ≤ y ∧ z = x ^ y.toNat)))) := by
  have e : B_holds 1000000 (startN 4 [.tup [.str "power", p, q, r], d]) = .rt (.fz (.bl (decide (0 ≤ x ∧ 0 ≤ y ∧ z = x ^ y.toNat)))) := by
    unfold B_holds
    refine st_set _ [.fz (.tup [.str "power", p, q, r]), .fz d, .fz (.lst [.int z, .int x, .int y]), .un] (lcF_vals (kd := "power") (ps := [p, q, r]) (vs := [z, x, y]) (by simp [h, h2, h3]) (by show 3 ≤ 100000; decide)) rfl ?_
    refine st_if0 kd_is ?_
    refine st_if0 kd_is ?_
    refine st_ifT kd_is (oSeq_is ?_)
    refine st_ret _ (fl ?_)
    refine andV_d (op2_ok (op2_ok rfl rfl (ix_l _ 1 _ rfl)) rfl rfl) fun hx0 => ?_
    refine andV_d (op2_ok (op2_ok rfl rfl (ix_l _ 2 _ rfl)) rfl rfl) fun hy0 => ?_
    obtain ⟨i, rfl⟩ := Int.eq_ofNat_of_zero_le hx0
    obtain ⟨j, rfl⟩ := Int.eq_ofNat_of_zero_le hy0
    have q := is_power_ok (z := z) (x := i) (y := j) (by omega) (by omega)
    refine toV_fz (callF_ok (ds := [.int z, .int (i : Int), .int (j : Int)]) (consA_ok (toV_fz (ixF_ok2 rfl rfl (ix_l _ 0 _ rfl))) (consA_ok (toV_fz (ixF_ok2 rfl rfl (ix_l _ 1 _ rfl))) (consA_ok (toV_fz (ixF_ok2 rfl rfl (ix_l _ 2 _ rfl))) rfl))) ?_)
    rw [q, Int.toNat_natCast]
  exact congrArg outR e
theorem holds3 {p q r d : D} {y n a : Int} (h : mi_value_of [p, d] = .ok (.fz (.int y))) (h2 : mi_value_of [q, d] = .ok (.fz (.int n))) (h3 : mi_value_of [r, d] = .ok (.fz (.int a))) (ha : a < 1000000000) (hn : rngOkB n = true) :
    mi_holds [.tup [.str "row", p, q, r], d] = .ok (.fz (.bl (decide (2 ≤ a ∧ 0 ≤ n ∧ y = Y a n.toNat)))) := by
  have e : B_holds 1000000 (startN 4 [.tup [.str "row", p, q, r], d]) = .rt (.fz (.bl (decide (2 ≤ a ∧ 0 ≤ n ∧ y = Y a n.toNat)))) := by
    unfold B_holds
    refine st_set _ [.fz (.tup [.str "row", p, q, r]), .fz d, .fz (.lst [.int y, .int n, .int a]), .un] (lcF_vals (kd := "row") (ps := [p, q, r]) (vs := [y, n, a]) (by simp [h, h2, h3]) (by show 3 ≤ 100000; decide)) rfl ?_
    refine st_if0 kd_is ?_
    refine st_if0 kd_is ?_
    refine st_if0 kd_is ?_
    refine st_ret _ (fl ?_)
    refine andV_d (op2_ok (op2_ok rfl rfl (ix_l _ 2 _ rfl)) rfl rfl) fun ha0 => ?_
    refine andV_d (op2_ok (op2_ok rfl rfl (ix_l _ 1 _ rfl)) rfl rfl) fun hn0 => ?_
    have q := is_member_ok (y := y) ha0 ha hn0 hn
    exact toV_fz (callF_ok (ds := [.int y, .int n, .int a]) (consA_ok (toV_fz (ixF_ok2 rfl rfl (ix_l _ 0 _ rfl))) (consA_ok (toV_fz (ixF_ok2 rfl rfl (ix_l _ 1 _ rfl))) (consA_ok (toV_fz (ixF_ok2 rfl rfl (ix_l _ 2 _ rfl))) rfl))) q)
  exact congrArg outR e
end RL

namespace RL
open PySem PySem.Spec PyProof.Rows L2 Mp PM
open Mp (D Sem)
theorem told0 {a : Int} : mi__law_told [.int 0, .lst [.int a]] = .ok (.fz (.bl (decide (a = 0)))) := by
  have e : B__law_told 1000000 (startN 4 [.int 0, .lst [.int a]]) = .rt (.fz (.bl (decide (a = 0)))) := by
    unfold B__law_told
    refine st_ifT (by simp [startN]) (oSeq_is ?_)
    exact st_ret _ (fl (op2_ok (op2_ok rfl rfl (ix_l _ 0 _ rfl)) rfl (eqD_ok (eqR_int _ _))))
  exact congrArg outR e
theorem told1 {a b : Int} (ha : a < 2 ^ 3000) : mi__law_told [.int 1, .lst [.int a, .int b]] = .ok (.fz (.bl (decide (0 ≤ a ∧ 0 ≤ b ∧ Builtin.bitAnd a b = a)))) := by
  have e : B__law_told 1000000 (startN 4 [.int 1, .lst [.int a, .int b]]) = .rt (.fz (.bl (decide (0 ≤ a ∧ 0 ≤ b ∧ Builtin.bitAnd a b = a)))) := by
    unfold B__law_told
    refine st_if0 (by simp [startN]) ?_
    refine st_ifT (by simp [startN]) (oSeq_is ?_)
    exact st_ret _ (callF_ok (ds := [.int a, .int b]) (consA_ok (toV_fz (ixF_ok2 rfl rfl (ix_l _ 0 _ rfl))) (consA_ok (toV_fz (ixF_ok2 rfl rfl (ix_l _ 1 _ rfl))) rfl)) (under_ok ha))
  exact congrArg outR e
theorem or_d {c c' : Rho → R Bool} {ρ : Rho} {P Q : Prop} [Decidable P] [Decidable Q] (h : c ρ = .ok (decide P)) (h2 : c' ρ = .ok (decide Q)) : orT c c' ρ = .ok (decide (P ∨ Q)) := by
  by_cases hp : P
  · rw [decide_eq_true hp] at h
    rw [orT_yes h, decide_eq_true (Or.inl hp)]
  · rw [decide_eq_false hp] at h
    rw [orT_no h h2]
    exact congrArg R.ok (decide_eq_decide.mpr ⟨.inr, fun q => q.resolve_left hp⟩)
theorem told2 {z x y : Int} (hx : x ≤ 1000) (hy : y ≤ 600 ∨ (Builtin.Int.intBits z : Int) < y) : mi__law_told [.int 2, .lst [.int z, .int x, .int y]] = .ok (.fz (.bl (decide (0 ≤ x ∧ 0 ≤ y ∧ z = x ^ y.toNat)))) := by
  have e : B__law_told 1000000 (startN 4 [.int 2, .lst [.int z, .int x, .int y]]) = .rt (.fz (.bl (decide (0 ≤ x ∧ 0 ≤ y ∧ z = x ^ y.toNat)))) := by
    unfold B__law_told
    refine st_if0 (by simp [startN]) ?_
    refine st_if0 (by simp [startN]) ?_
    refine st_ifT (by simp [startN]) (oSeq_is ?_)
    have c1 : (orT (toT (op2 ltD (op2 ixD (rdV 1) (cV (.int 1))) (cV (.int 0)))) (toT (op2 ltD (op2 ixD (rdV 1) (cV (.int 2))) (cV (.int 0))))) (startN 4 [.int 2, .lst [.int z, .int x, .int y]]) = .ok (decide (x < 0 ∨ y < 0)) :=
      or_d (toT_ok (op2_ok (op2_ok rfl rfl (ix_l _ 1 _ rfl)) rfl rfl)) (toT_ok (op2_ok (op2_ok rfl rfl (ix_l _ 2 _ rfl)) rfl rfl))
    by_cases h0 : x < 0 ∨ y < 0
    · rw [decide_eq_true h0] at c1
      refine st_ifT c1 (oSeq_is ?_)
      rw [decide_eq_false (by omega)]
      exact st_ret _ (fl rfl)
    · rw [decide_eq_false h0] at c1
      refine st_if0 c1 ?_
      obtain ⟨i, rfl⟩ := Int.eq_ofNat_of_zero_le (show 0 ≤ x by omega)
      obtain ⟨j, rfl⟩ := Int.eq_ofNat_of_zero_le (show 0 ≤ y by omega)
      have c2 : toT (op2 gtD (op2 ixD (rdV 1) (cV (.int 2))) (cV (.int 600))) (startN 4 [.int 2, .lst [.int z, .int (i : Int), .int (j : Int)]]) = .ok (decide ((600 : Int) < (j : Int))) := toT_ok (op2_ok (op2_ok rfl rfl (ix_l _ 2 _ rfl)) rfl rfl)
      rw [Int.toNat_natCast]
      by_cases h6 : (600 : Int) < (j : Int)
      · rw [decide_eq_true h6] at c2
        refine st_ifT c2 (oSeq_is ?_)
        have e1 : (0 ≤ (i : Int) ∧ 0 ≤ (j : Int) ∧ z = (i : Int) ^ j) ↔ ((i : Int) < 2 ∧ z = (i : Int)) := by
          have hj : Builtin.Int.intBits z < j := by omega
          have hz := bits_abs z
          obtain ⟨k, rfl⟩ : ∃ k, j = k + 1 := ⟨j - 1, by omega⟩
          rcases Nat.lt_or_ge i 2 with q | q
          · have hi : (i : Int) ^ (k + 1) = (i : Int) := by
              rcases (show i = 0 ∨ i = 1 by omega) with q | q
              · subst q; rw [Int.pow_succ]; simp
              · subst q; exact Int.one_pow
            rw [hi]
            omega
          · have hb : 2 ^ Builtin.Int.intBits z ≤ 2 ^ (k + 1) := Nat.pow_le_pow_right (by decide) (by omega)
            have hi : 2 ^ (k + 1) ≤ i ^ (k + 1) := Nat.pow_le_pow_left q _
            rw [← Int.natCast_pow]
            generalize i ^ (k + 1) = w at *
            generalize 2 ^ (k + 1) = w2 at *
            omega
        rw [decide_eq_decide.mpr e1]
        exact st_ret _ (fl (andV_d (op2_ok (op2_ok rfl rfl (ix_l _ 1 _ rfl)) rfl rfl) fun _ => op2_ok (op2_ok rfl rfl (ix_l _ 0 _ rfl)) (op2_ok rfl rfl (ix_l _ 1 _ rfl)) (eqD_ok (eqR_int _ _))))
      · rw [decide_eq_false h6] at c2
        refine st_if0 c2 ?_
        refine st_set (.fz (.int 1)) [.fz (.int 2), .fz (.lst [.int z, .int (i : Int), .int (j : Int)]), .fz (.int 1), .un] rfl rfl ?_
        obtain ⟨ρ, eρ, s3, rfl⟩ := sLoop_P (g := gN 3) (b := L1__law_told) (n := 1000000) (fun k ρ => ∃ s3, ρ = [.fz (.int 2), .fz (.lst [.int z, .int (i : Int), .int (j : Int)]), .fz (.int ((i : Int) ^ k)), s3])
          (ds := rngL 0 (j : Int)) (ρ := [.fz (.int 2), .fz (.lst [.int z, .int (i : Int), .int (j : Int)]), .fz (.int ((i : Int) ^ 0)), .un]) ⟨.un, rfl⟩ fun k d' ρ hj h => by
          obtain ⟨rfl, hj2⟩ := rngL_get hj
          obtain ⟨s3, rfl⟩ := h
          simp only [gN, RP_ok, List.set_cons_succ, List.set_cons_zero]
          have m1 : ∀ z : Int, mulOk z (i : Int) = true := fun z => mulOk_r (by omega) (by omega)
          have e2 : L1__law_told 1000000 [.fz (.int 2), .fz (.lst [.int z, .int (i : Int), .int (j : Int)]), .fz (.int ((i : Int) ^ k)), .fz (.int (0 + (k : Nat)))] = .nx [.fz (.int 2), .fz (.lst [.int z, .int (i : Int), .int (j : Int)]), .fz (.int ((i : Int) ^ (k + 1))), .fz (.int (0 + (k : Nat)))] := by
            rw [Int.pow_succ, Int.zero_add]
            generalize (i : Int) ^ k = w
            unfold L1__law_told
            show rOut _ (toF (op2 mulD (rdV 2) (op2 ixD (rdV 1) (cV (.int 1)))) _) _ = _
            rw [toF_ok (d := .int (w * (i : Int))) (op2_ok rfl (op2_ok rfl rfl (ix_l _ 1 _ rfl)) (iicD_int (m1 w))), rOut_ok]
            rfl
          rw [e2, NxP_nx]
          exact ⟨_, rfl⟩
        have rj : rngOk (j : Int) = true := rngOk_small (by omega) (by omega)
        rw [rngL_len, show ((j : Int) - 0).toNat = j by omega, Int.pow_zero] at eρ
        have hi : rng1 (consA (op2 ixD (rdV 1) (cV (.int 2))) (nilA)) [.fz (.int 2), .fz (.lst [.int z, .int (i : Int), .int (j : Int)]), .fz (.int 1), .un] = .ok (rngL 0 (j : Int)) := by
          have e3 : consA (op2 ixD (rdV 1) (cV (.int 2))) (nilA) [.fz (.int 2), .fz (.lst [.int z, .int (i : Int), .int (j : Int)]), .fz (.int 1), .un] = .ok [.int (j : Int)] := consA_ok (op2_ok rfl rfl (ix_l _ 2 _ rfl)) rfl
          unfold rng1
          rw [e3, R.bind_ok]
          show (if rngOk (j : Int) = true then R.ok (rngL 0 (j : Int)) else .no) = _
          rw [if_pos rj]
        refine st_for (rngL 0 (j : Int)) _ hi eρ ?_
        have e1 : (0 ≤ (i : Int) ∧ 0 ≤ (j : Int) ∧ z = (i : Int) ^ j) ↔ z = (i : Int) ^ j := by
          generalize (i : Int) ^ j = w
          omega
        rw [decide_eq_decide.mpr e1]
        exact st_ret _ (fl (op2_ok (op2_ok rfl rfl (ix_l _ 0 _ rfl)) rfl (eqD_ok (eqR_int _ _))))
  exact congrArg outR e
theorem told3 {y n a : Int} (ha : a < 1000000000) (hn : n < 300 ∨ (9223372036854775808 ≤ n ∧ y < n)) : mi__law_told [.int 3, .lst [.int y, .int n, .int a]] = .ok (.fz (.bl (decide (2 ≤ a ∧ 0 ≤ n ∧ y = Y a n.toNat)))) := by
  have e : B__law_told 1000000 (startN 4 [.int 3, .lst [.int y, .int n, .int a]]) = .rt (.fz (.bl (decide (2 ≤ a ∧ 0 ≤ n ∧ y = Y a n.toNat)))) := by
    unfold B__law_told
    refine st_if0 (by simp [startN]) ?_
    refine st_if0 (by simp [startN]) ?_
    refine st_if0 (by simp [startN]) ?_
    have c1 : (orT (toT (op2 ltD (op2 ixD (rdV 1) (cV (.int 2))) (cV (.int 2)))) (toT (op2 ltD (op2 ixD (rdV 1) (cV (.int 1))) (cV (.int 0))))) (startN 4 [.int 3, .lst [.int y, .int n, .int a]]) = .ok (decide (a < 2 ∨ n < 0)) :=
      or_d (toT_ok (op2_ok (op2_ok rfl rfl (ix_l _ 2 _ rfl)) rfl rfl)) (toT_ok (op2_ok (op2_ok rfl rfl (ix_l _ 1 _ rfl)) rfl rfl))
    by_cases h0 : a < 2 ∨ n < 0
    · rw [decide_eq_true h0] at c1
      refine st_ifT c1 (oSeq_is ?_)
      rw [decide_eq_false (by omega)]
      exact st_ret _ (fl rfl)
    · rw [decide_eq_false h0] at c1
      refine st_if0 c1 ?_
      have e1 : (2 ≤ a ∧ 0 ≤ n ∧ y = Y a n.toNat) ↔ (n < 300 ∧ y = Y a n.toNat) := by
        have := Y_ge (show 2 ≤ a by omega) n.toNat
        generalize Y a n.toNat = w at *
        omega
      rw [decide_eq_decide.mpr e1]
      refine st_ret _ (fl (andV_d (op2_ok (op2_ok rfl rfl (ix_l _ 1 _ rfl)) rfl rfl) fun h3 => ?_))
      obtain ⟨k, rfl⟩ := Int.eq_ofNat_of_zero_le (show 0 ≤ n by omega)
      have q := member_ok (n := k) (a := a) (by omega) (by omega) (by omega)
      rw [Int.toNat_natCast]
      exact op2_ok (op2_ok rfl rfl (ix_l _ 0 _ rfl)) (toV_fz (callF_ok (ds := [.int (k : Int), .int a]) (consA_ok (toV_fz (ixF_ok2 rfl rfl (ix_l _ 1 _ rfl))) (consA_ok (toV_fz (ixF_ok2 rfl rfl (ix_l _ 2 _ rfl))) rfl)) q)) (eqD_ok (eqR_int _ _))
  exact congrArg outR e
end RL

namespace K03
open PySem PySem.Spec PyProof.Rows L2 Mp PM RL
open Mp (D Sem)
/-! ### the four kinds -/
def nms : List D := [.str "zero", .str "under", .str "power", .str "row"]
section
variable {α β : Type} {f : α → β}
theorem m1_of {a : β} : ∀ {ps : List α}, ps.map f = [a] → ∃ p, ps = [p] ∧ f p = a
  | [p], h => ⟨p, rfl, (List.cons.inj h).1⟩
  | [], h => nomatch h
  | _ :: _ :: _, h => nomatch (List.cons.inj h).2
theorem m2_of {a b : β} : ∀ {ps : List α}, ps.map f = [a, b] → ∃ p q, ps = [p, q] ∧ f p = a ∧ f q = b
  | [], h => nomatch h
  | p :: ps, h => by
    obtain ⟨q, rfl, e⟩ := m1_of (List.cons.inj h).2
    exact ⟨p, q, rfl, (List.cons.inj h).1, e⟩
theorem m3_of {a b c : β} : ∀ {ps : List α}, ps.map f = [a, b, c] → ∃ p q r, ps = [p, q, r] ∧ f p = a ∧ f q = b ∧ f r = c
  | [], h => nomatch h
  | p :: ps, h => by
    obtain ⟨q, r, rfl, e, e2⟩ := m2_of (List.cons.inj h).2
    exact ⟨p, q, r, rfl, (List.cons.inj h).1, e, e2⟩
end
theorem rngB_of {n : Int} (h : -1 ≤ n) (h2 : n < 300 ∨ (9223372036854775808 ≤ n ∧ n = n)) : rngOkB n = true := guardB_iff.mpr (by
  rcases h2 with q | q
  · left
    rw [show (2 : Int) ^ 62 = 4611686018427387904 from rfl]
    omega
  · right
    rw [show (2 : Int) ^ 63 = 9223372036854775808 from rfl]
    exact q.1)
theorem kinds {l : List D} (h : Dr l) (hl : l.length ≤ 90000) (c k : Nat) (hk : k < 4) : ∃ (kd : Str) (vs : List Int) (c' : Nat) (t : Bool), 0 < vs.length ∧ vs.length ≤ 3 ∧ mi__law_numbers_of [.int (k : Int), .lst l] [(c : Int)] = .ok (.lst (vs.map .int), [(c' : Int)]) ∧
    (∀ ps d, ps.map (fun p => mi_value_of [p, d]) = vs.map (fun v => R.ok (Sl.fz (.int v))) → mi_holds [.tup (.str kd :: ps), d] = .ok (.fz (.bl t))) ∧ mi__law_told [.int (k : Int), .lst (vs.map .int)] = .ok (.fz (.bl t)) ∧ nms[k]? = some (.str kd) := by
  rcases (show k = 0 ∨ k = 1 ∨ k = 2 ∨ k = 3 by omega) with rfl | rfl | rfl | rfl
  · obtain ⟨a, c', e⟩ := of0 h hl c
    refine ⟨"zero", [a], c', _, by show 0 < 1; decide, by show 1 ≤ 3; decide, e, fun ps d hp => ?_, told0, rfl⟩
    obtain ⟨p, rfl, h1⟩ := m1_of hp
    exact holds0 h1
  · obtain ⟨a, b, c', ha, e⟩ := of1 h hl c
    refine ⟨"under", [a, b], c', _, by show 0 < 2; decide, by show 2 ≤ 3; decide, e, fun ps d hp => ?_, told1 ha, rfl⟩
    obtain ⟨p, q, rfl, h1, h2⟩ := m2_of hp
    exact holds1 h1 h2
  · obtain ⟨z, x, y, c', hx, hy, e⟩ := of2 h hl c
    refine ⟨"power", [z, x, y], c', _, by show 0 < 3; decide, by show 3 ≤ 3; decide, e, fun ps d hp => ?_, told2 hx hy, rfl⟩
    obtain ⟨p, q, r, rfl, h1, h2, h3⟩ := m3_of hp
    exact holds2 h1 h2 h3 hx hy
  · obtain ⟨y, n, a, c', hn0, ha, hn, e⟩ := of3 h hl c
    refine ⟨"row", [y, n, a], c', _, by show 0 < 3; decide, by show 3 ≤ 3; decide, e, fun ps d hp => ?_, told3 ha hn, rfl⟩
    obtain ⟨p, q, r, rfl, h1, h2, h3⟩ := m3_of hp
    exact holds3 h1 h2 h3 ha (rngB_of hn0 (hn.imp id fun q => ⟨q.1, rfl⟩))
/-! ### the polynomials -/
def bld (j0 : Nat) (p0 : D) : Nat → List Int → List D
  | _, [] => []
  | k, v :: vs => (if k = j0 then p0 else pC v) :: bld j0 p0 (k + 1) vs
theorem bld_len (j0 : Nat) (p0 : D) : ∀ (vs : List Int) (k : Nat), (bld j0 p0 k vs).length = vs.length
  | [], _ => rfl
  | v :: vs, k => by unfold bld; rw [List.length_cons, List.length_cons, bld_len]
theorem bld_get (j0 : Nat) (p0 : D) : ∀ (vs : List Int) (k i : Nat), (bld j0 p0 k vs)[i]? = (vs[i]?).map fun v => if k + i = j0 then p0 else pC v
  | [], _, _ => rfl
  | v :: vs, k, 0 => rfl
  | v :: vs, k, i + 1 => by
    unfold bld
    rw [List.getElem?_cons_succ, List.getElem?_cons_succ, bld_get j0 p0 vs (k + 1) i, show k + 1 + i = k + (i + 1) by omega]
theorem bld_val {j0 : Nat} {p0 d : D} {v0 : Int} (hp : mi_value_of [p0, d] = .ok (.fz (.int v0))) : ∀ (vs : List Int) (k : Nat), (∀ i v, vs[i]? = some v → k + i = j0 → v = v0) → (bld j0 p0 k vs).map (fun p => mi_value_of [p, d]) = vs.map (fun v => R.ok (Sl.fz (.int v)))
  | [], _, _ => rfl
  | v :: vs, k, h => by
    unfold bld
    rw [List.map_cons, List.map_cons, bld_val hp vs (k + 1) fun i w hw e => h (i + 1) w hw (by omega)]
    congr 1
    by_cases e : k = j0
    · rw [if_pos e, hp, h 0 v rfl (by omega)]
    · rw [if_neg e]; exact valC v d
section
variable {ns : List Int} {l ps : List D} {vs : List Int} {c : Int} {s3 s4 s5 s6 s10 s12 s13 s14 : Sl} {at' : Int} {n : Nat}
abbrev st1 (ns : List Int) (l : List D) (c : Int) (s3 s4 s5 s6 : Sl) (vs : List Int) (at' : Int) (ps : List D) (s10 s11 s12 s13 s14 : Sl) : Rho :=
  [.fz (.sq ns), .fz (.lst l), .ow (.lst [.int c]), s3, s4, s5, s6, .fz (.lst (vs.map .int)), .fz (.int at'), .ow (.lst ps), s10, s11, s12, s13, s14]
theorem sApp_ok {i n : Nat} {f : Rho → R Sl} {ρ : Rho} {ds : List D} {d : D} (h : ρ[i]? = some (.ow (.lst ds))) (h2 : toV f ρ = .ok d) (h3 : ds.length < 100000) : sApp i f n ρ = .nx (ρ.set i (.ow (.lst (ds ++ [d])))) := by
  unfold sApp
  rw [h]
  show rOut ρ (toV f ρ) _ = _
  rw [h2, rOut_ok, if_pos (by rw [sizeLine_eq]; omega)]
theorem l1_test {k : Nat} {w : Int} (hw : w = vs.length) (h0 : 0 < w) : toT (op2 eqD (rdV 11) (op2 modD (rdV 8) (opL lenD (consA (rdV 7) (nilA))))) (st1 ns l c s3 s4 s5 s6 vs at' ps s10 (.fz (.int (k : Int))) s12 s13 s14) = .ok (decide ((k : Int) = at' % w)) := by
  have em : modD (.int at') (.int w) = .ok (.int (at' % w)) := by simp [modD]; omega
  refine toT_ok (op2_ok rfl (op2_ok rfl (opL_ok (consA_ok rfl rfl) (show lenD [.lst (vs.map .int)] = .ok (.int w) from ?_)) em) (eqD_ok (eqR_int _ _)))
  show R.ok (D.int ((vs.map D.int).length : Nat)) = _
  rw [List.length_map, hw]
theorem l1_T {k : Nat} {w v : Int} {p d : D} (hw : w = vs.length) (h0 : 0 < w) (hk : (k : Int) = at' % w) (hv : vs[k]? = some v) (hg : mi__law_given [.int v, .int (at' / 4)] = .ok (.fz (.tup [p, d]))) (hl : ps.length < 100000) :
    L1_law n (st1 ns l c s3 s4 s5 s6 vs at' ps s10 (.fz (.int (k : Int))) s12 s13 s14) = .nx (st1 ns l c s3 s4 s5 s6 vs at' (ps ++ [p]) (.fz d) (.fz (.int (k : Int))) s12 s13 (.fz (.tup [p, d]))) := by
  have ht := l1_test (ns := ns) (l := l) (c := c) (s3 := s3) (s4 := s4) (s5 := s5) (s6 := s6) (at' := at') (ps := ps) (s10 := s10) (s12 := s12) (s13 := s13) (s14 := s14) (k := k) hw h0
  rw [decide_eq_true hk] at ht
  have hix : ixD (.lst (vs.map .int)) (.int (k : Int)) = .ok (.int v) := ix_l _ k _ (by rw [List.getElem?_map, hv]; rfl)
  have dv : divOk at' 4 = true := divOk_small (by decide) (by decide)
  have hd : divD (.int at') (.int 4) = .ok (.int (at' / 4)) := by simp [dv]
  unfold L1_law
  refine (ifT_yes ht).trans ?_
  refine st_set _ (st1 ns l c s3 s4 s5 s6 vs at' ps s10 (.fz (.int (k : Int))) s12 s13 (.fz (.tup [p, d]))) (callF_ok (consA_ok (toV_fz (ixF_ok2 rfl rfl hix)) (consA_ok (toV_fz (toF_ok (op2_ok rfl rfl hd))) rfl)) hg) rfl ?_
  refine st_nx _ (sApp_ok rfl (toV_fz (ixF_ok2 rfl rfl (ix_t _ 0 _ rfl))) hl) ?_
  show rOut _ (ixF (rdV 14) (cV (.int 1)) _) _ = _
  rw [ixF_ok2 rfl rfl (ix_t [p, d] 1 _ rfl), rOut_ok]
  rfl
theorem l1_F {k : Nat} {w v : Int} (hw : w = vs.length) (h0 : 0 < w) (hk : ¬ (k : Int) = at' % w) (hv : vs[k]? = some v) (hl : ps.length < 100000) :
    L1_law n (st1 ns l c s3 s4 s5 s6 vs at' ps s10 (.fz (.int (k : Int))) s12 s13 s14) = .nx (st1 ns l c s3 s4 s5 s6 vs at' (ps ++ [pC v]) s10 (.fz (.int (k : Int))) s12 s13 s14) := by
  have ht := l1_test (ns := ns) (l := l) (c := c) (s3 := s3) (s4 := s4) (s5 := s5) (s6 := s6) (at' := at') (ps := ps) (s10 := s10) (s12 := s12) (s13 := s13) (s14 := s14) (k := k) hw h0
  rw [decide_eq_false hk] at ht
  have hix : ixD (.lst (vs.map .int)) (.int (k : Int)) = .ok (.int v) := ix_l _ k _ (by rw [List.getElem?_map, hv]; rfl)
  unfold L1_law
  refine (ifT_no ht).trans ?_
  exact sApp_ok rfl (toV_ow (callF_ok (consA_ok (toV_ow (dsp1 (toV_fz (ixF_ok2 rfl rfl hix)))) rfl) (cleanC v))) hl
theorem l1_loop (hw0 : 0 < vs.length) (hw3 : vs.length ≤ 3) (hat : 0 ≤ at') : ∃ (ps' : List D) (d : D) (s11 s14' : Sl), ps'.map (fun p => mi_value_of [p, d]) = vs.map (fun v => R.ok (Sl.fz (.int v))) ∧ ps'.length = vs.length ∧
    sLoop (gN 11) L1_law 1000000 (rngL 0 (vs.length : Int)) (st1 ns l c s3 s4 s5 s6 vs at' [] (.fz (.dk [] [])) s10 s12 s13 s14) = .nx (st1 ns l c s3 s4 s5 s6 vs at' ps' (.fz d) s11 s12 s13 s14') := by
  obtain ⟨j0, hj0⟩ : ∃ j0 : Nat, at' % (vs.length : Int) = (j0 : Int) := ⟨(at' % (vs.length : Int)).toNat, by have := Int.emod_nonneg at' (show (vs.length : Int) ≠ 0 by omega); omega⟩
  have hlt : j0 < vs.length := by have := Int.emod_lt_of_pos at' (show 0 < (vs.length : Int) by omega); omega
  obtain ⟨v0, hv0⟩ : ∃ v0, vs[j0]? = some v0 := ⟨_, List.getElem?_eq_getElem hlt⟩
  obtain ⟨p0, d, hg, hval⟩ := given_ok v0 (at' / 4)
  obtain ⟨ρ, eρ, s11, s14', rfl⟩ := sLoop_P (g := gN 11) (b := L1_law) (n := 1000000) (fun j ρ => ∃ s11 s14', ρ = st1 ns l c s3 s4 s5 s6 vs at' ((bld j0 p0 0 vs).take j) (.fz (if j0 < j then d else .dk [] [])) s11 s12 s13 s14')
    (ds := rngL 0 (vs.length : Int)) (ρ := st1 ns l c s3 s4 s5 s6 vs at' [] (.fz (.dk [] [])) s10 s12 s13 s14) ⟨s10, s14, rfl⟩ fun j d' ρ hj h => by
    obtain ⟨rfl, hj2⟩ := rngL_get hj
    obtain ⟨s11, s14', rfl⟩ := h
    simp only [gN, RP_ok, List.set_cons_succ, List.set_cons_zero]
    have hjl : j < vs.length := by omega
    have hv : vs[j]? = some vs[j] := List.getElem?_eq_getElem hjl
    have hb := bld_get j0 p0 vs 0 j
    rw [hv] at hb
    have ht : (bld j0 p0 0 vs).take (j + 1) = (bld j0 p0 0 vs).take j ++ [if 0 + j = j0 then p0 else pC vs[j]] := by
      rw [List.take_succ, hb]; rfl
    have hlen : ((bld j0 p0 0 vs).take j).length < 100000 := by rw [List.length_take, bld_len]; omega
    rw [ht]
    by_cases e : j = j0
    · have hvv : vs[j] = v0 := by
        rw [← e, hv] at hv0
        exact Option.some.inj hv0
      have i1 : (if 0 + j = j0 then p0 else pC vs[j]) = p0 := if_pos (by omega)
      have i2 : (if j0 < j + 1 then d else D.dk [] []) = d := if_pos (by omega)
      rw [i1, i2]
      have q := l1_T (n := 1000000) (ns := ns) (l := l) (c := c) (s3 := s3) (s4 := s4) (s5 := s5) (s6 := s6) (s10 := .fz (if j0 < j then d else .dk [] [])) (s12 := s12) (s13 := s13) (s14 := s14') (k := j) (w := (vs.length : Int)) (v := v0) (p := p0) (d := d) (ps := (bld j0 p0 0 vs).take j) rfl (by omega) (by rw [hj0, e]) (by rw [hv, hvv]) hg hlen
      rw [Int.zero_add]
      rw [q, NxP_nx]
      exact ⟨_, _, rfl⟩
    · have i1 : (if 0 + j = j0 then p0 else pC vs[j]) = pC vs[j] := if_neg (by omega)
      rw [i1]
      have q := l1_F (n := 1000000) (ns := ns) (l := l) (c := c) (s3 := s3) (s4 := s4) (s5 := s5) (s6 := s6) (s10 := .fz (if j0 < j then d else .dk [] [])) (s12 := s12) (s13 := s13) (s14 := s14') (k := j) (w := (vs.length : Int)) (v := vs[j]) (ps := (bld j0 p0 0 vs).take j) rfl (by omega) (by rw [hj0]; omega) hv hlen
      rw [Int.zero_add]
      rw [q, NxP_nx]
      have hi : (if j0 < j then d else D.dk [] []) = (if j0 < j + 1 then d else .dk [] []) := by
        by_cases q : j0 < j
        · rw [if_pos q, if_pos (by omega)]
        · rw [if_neg q, if_neg (by omega)]
      rw [hi]
      exact ⟨_, _, rfl⟩
  have hl : (rngL 0 (vs.length : Int)).length = vs.length := by rw [rngL_len]; omega
  rw [hl, if_pos hlt, List.take_of_length_le (by rw [bld_len]; exact Nat.le_refl _)] at eρ
  refine ⟨bld j0 p0 0 vs, d, s11, s14', bld_val hval vs 0 fun i v hv e => ?_, bld_len _ _ _ _, eρ⟩
  rw [Nat.zero_add] at e
  rw [e, hv0] at hv
  exact (Option.some.inj hv).symm
end
/-! ### one turn -/
theorem takeL {l : List D} (h : Dr l) (hl : l.length ≤ 90000) (c : Nat) : ∃ (v : Int) (c' : Nat), 0 ≤ v ∧ v < 1000 ∧ ∀ (ρ : Rho), ρ[1]? = some (.fz (.lst l)) → ρ[2]? = some (.ow (.lst [.int (c : Int)])) → callP 2 mi__law_take (consA (toV (rdF 1)) nilA) ρ = .ok (.int v, ρ.set 2 (.ow (.lst [.int (c' : Int)]))) := by
  obtain ⟨v, c', hv, e⟩ := take_ok h hl c
  refine ⟨v, c', by omega, by omega, fun ρ h1 h2 => ?_⟩
  have e1 : toV (rdF 1) ρ = .ok (.lst l) := by unfold toV rdF; rw [h1]; rfl
  unfold callP
  rw [consA_ok e1 (nilQ _), R.bind_ok, h2]
  show (mi__law_take [.lst l] [(c : Int)]).bind _ = _
  rw [e]; rfl
theorem modX {fa : Rho → R (D × Rho)} {ρ ρ' : Rho} {v w : Int} (h : fa ρ = .ok (.int v, ρ')) (hw : 0 < w) : op2X modD fa (xOf (toF (cV (.int w)))) ρ = .ok (.int (v % w), ρ') := by
  have em : modD (.int v) (.int w) = .ok (.int (v % w)) := by simp [modD]; omega
  unfold op2X
  rw [h, R.bind_ok]
  show (R.ok (D.int w, ρ')).bind _ = _
  rw [R.bind_ok]
  show (modD (.int v) (.int w)).bind _ = _
  rw [em]; rfl
abbrev st2 (ns : List Int) (l : List D) (c : Int) (s3 s4 s5 s6 s7 s8 s9 s10 s11 s12 s13 s14 : Sl) : Rho :=
  [.fz (.sq ns), .fz (.lst l), .ow (.lst [.int c]), s3, s4, s5, s6, s7, s8, s9, s10, s11, s12, s13, s14]
theorem turn {ns : List Int} {l : List D} (h : Dr l) (hl : l.length ≤ 90000) (c : Nat) {s3 s4 s5 s6 s7 s8 s9 s10 s11 s12 s13 s14 : Sl} :
    ∃ (c' : Nat) (s6' s7' s8' s9' s10' s11' s12' s13' s14' : Sl), L2_law 1000000 (st2 ns l (c : Int) s3 s4 s5 s6 s7 s8 s9 s10 s11 s12 s13 s14) = .nx (st2 ns l (c' : Int) s3 s4 s5 s6' s7' s8' s9' s10' s11' s12' s13' s14') := by
  obtain ⟨v1, c1, h11, h12, e1⟩ := takeL h hl c
  obtain ⟨k, hk⟩ : ∃ k : Nat, v1 % 4 = (k : Int) := ⟨(v1 % 4).toNat, by omega⟩
  obtain ⟨kd, vs, c2, t, hw0, hw3, eof, ehol, etol, enm⟩ := kinds h hl c1 k (by omega)
  obtain ⟨at', c3, h31, h32, e3⟩ := takeL h hl c2
  obtain ⟨ps, d, s11', s14', hps, hpl, eloop⟩ := l1_loop (ns := ns) (l := l) (c := (c3 : Int)) (s3 := s3) (s4 := s4) (s5 := s5) (s6 := .fz (.int (k : Int))) (vs := vs) (at' := at') (s10 := s11) (s12 := s12) (s13 := s13) (s14 := s14) hw0 hw3 h31
  refine ⟨c3, .fz (.int (k : Int)), .fz (.lst (vs.map .int)), .fz (.int at'), .ow (.lst ps), .fz d, s11', .fz (.tup (.str kd :: ps)), .fz (.bl t), s14', ?_⟩
  unfold L2_law
  have q1 := modX (w := 4) (e1 (st2 ns l (c : Int) s3 s4 s5 s6 s7 s8 s9 s10 s11 s12 s13 s14) rfl rfl) (by decide)
  rw [hk] at q1
  refine st_setX _ _ (st2 ns l (c1 : Int) s3 s4 s5 (.fz (.int (k : Int))) s7 s8 s9 s10 s11 s12 s13 s14) q1 rfl ?_
  have q2 : callP 2 mi__law_numbers_of (consA (toV (rdF 6)) (consA (toV (rdF 1)) (nilA))) (st2 ns l (c1 : Int) s3 s4 s5 (.fz (.int (k : Int))) s7 s8 s9 s10 s11 s12 s13 s14) = .ok (.lst (vs.map .int), st2 ns l (c2 : Int) s3 s4 s5 (.fz (.int (k : Int))) s7 s8 s9 s10 s11 s12 s13 s14) := by
    unfold callP
    rw [consA_ok (d := .int (k : Int)) rfl (consA_ok (d := .lst l) rfl rfl), R.bind_ok]
    show (mi__law_numbers_of [.int (k : Int), .lst l] [(c1 : Int)]).bind _ = _
    rw [eof]; rfl
  refine st_setX _ _ (st2 ns l (c2 : Int) s3 s4 s5 (.fz (.int (k : Int))) (.fz (.lst (vs.map .int))) s8 s9 s10 s11 s12 s13 s14) q2 rfl ?_
  refine st_setX _ _ (st2 ns l (c3 : Int) s3 s4 s5 (.fz (.int (k : Int))) (.fz (.lst (vs.map .int))) (.fz (.int at')) s9 s10 s11 s12 s13 s14) (e3 _ rfl rfl) rfl ?_
  refine st_own (.ow (.lst [])) (st2 ns l (c3 : Int) s3 s4 s5 (.fz (.int (k : Int))) (.fz (.lst (vs.map .int))) (.fz (.int at')) (.ow (.lst [])) s10 s11 s12 s13 s14) (lstF_ok (nilQ _) (by decide)) rfl ?_
  refine st_set (.ow (.dk [] [])) (st2 ns l (c3 : Int) s3 s4 s5 (.fz (.int (k : Int))) (.fz (.lst (vs.map .int))) (.fz (.int at')) (.ow (.lst [])) (.fz (.dk [] [])) s11 s12 s13 s14) rfl rfl ?_
  have rw' : rngOk (vs.length : Int) = true := rngOk_small (by omega) (by omega)
  refine st_for (rngL 0 (vs.length : Int)) _ (by simp [rw']) eloop ?_
  have q3 : op2S catD (toV (tupF (consA (toV (ixF (toV (tupF (consA (toV (toF (cV (.str "zero")))) (consA (toV (toF (cV (.str "under")))) (consA (toV (toF (cV (.str "power")))) (consA (toV (toF (cV (.str "row")))) (nilA))))))) (rdV 6))) (nilA)))) (toV (opLS tupleD (consA (rdV 9) (nilA)))) (st2 ns l (c3 : Int) s3 s4 s5 (.fz (.int (k : Int))) (.fz (.lst (vs.map .int))) (.fz (.int at')) (.ow (.lst ps)) (.fz d) s11' s12 s13 s14') = .ok (.fz (.tup (.str kd :: ps))) := by
    have t1 : toV (tupF (consA (toV (toF (cV (.str "zero")))) (consA (toV (toF (cV (.str "under")))) (consA (toV (toF (cV (.str "power")))) (consA (toV (toF (cV (.str "row")))) (nilA)))))) (st2 ns l (c3 : Int) s3 s4 s5 (.fz (.int (k : Int))) (.fz (.lst (vs.map .int))) (.fz (.int at')) (.ow (.lst ps)) (.fz d) s11' s12 s13 s14') = .ok (.tup nms) := toV_fz (tupF_ok rfl (by show 4 ≤ 100000; decide))
    have t2 : toV (tupF (consA (toV (ixF (toV (tupF (consA (toV (toF (cV (.str "zero")))) (consA (toV (toF (cV (.str "under")))) (consA (toV (toF (cV (.str "power")))) (consA (toV (toF (cV (.str "row")))) (nilA))))))) (rdV 6))) (nilA))) (st2 ns l (c3 : Int) s3 s4 s5 (.fz (.int (k : Int))) (.fz (.lst (vs.map .int))) (.fz (.int at')) (.ow (.lst ps)) (.fz d) s11' s12 s13 s14') = .ok (.tup [.str kd]) := toV_fz (tupF_ok (consA_ok (toV_fz (ixF_ok2 t1 rfl (ix_t _ k _ enm))) rfl) (by show 1 ≤ 100000; decide))
    have t3 : toV (opLS tupleD (consA (rdV 9) (nilA))) (st2 ns l (c3 : Int) s3 s4 s5 (.fz (.int (k : Int))) (.fz (.lst (vs.map .int))) (.fz (.int at')) (.ow (.lst ps)) (.fz d) s11' s12 s13 s14') = .ok (.tup ps) := rfl
    unfold op2S
    rw [t2, R.bind_ok, t3, R.bind_ok]
    show (if 1 + ps.length ≤ sizeLine then R.ok (Sl.fz (.tup ([.str kd] ++ ps))) else .no) = _
    rw [if_pos (by rw [sizeLine_eq]; omega)]
    rfl
  refine st_set _ (st2 ns l (c3 : Int) s3 s4 s5 (.fz (.int (k : Int))) (.fz (.lst (vs.map .int))) (.fz (.int at')) (.ow (.lst ps)) (.fz d) s11' (.fz (.tup (.str kd :: ps))) s13 s14') q3 rfl ?_
  refine st_set (.fz (.bl t)) (st2 ns l (c3 : Int) s3 s4 s5 (.fz (.int (k : Int))) (.fz (.lst (vs.map .int))) (.fz (.int at')) (.ow (.lst ps)) (.fz d) s11' (.fz (.tup (.str kd :: ps))) (.fz (.bl t)) s14') (callF_ok (consA_ok rfl (consA_ok rfl rfl)) (ehol ps d hps)) rfl ?_
  refine ifT_no (orT_no ?_ ?_)
  · exact notT_ok (k := true) (toT_ok (op1_ok rfl rfl))
  · refine toT_ok (op2_ok rfl (toV_fz (callF_ok (ds := [.int (k : Int), .lst (vs.map .int)]) (consA_ok rfl (consA_ok rfl rfl)) etol)) ?_)
    exact (neD_ok (eqR_bl t t)).trans (by simp)
theorem law_true (ns : List Int) (hn : ns.length ≤ 63) (hb : ∀ z ∈ ns, Builtin.Int.intBits z ≤ 1048576) : mi_law [.sq ns] = .ok (.fz (.bl true)) := by
  obtain ⟨l, h, hl, el⟩ := numbers_ok hn
  obtain ⟨ρ, eρ, c, s3, s6, s7, s8, s9, s10, s11, s12, s13, s14, rfl⟩ := sLoop_P (g := gN 3) (b := L2_law) (n := 1000000) (fun j ρ => ∃ (c : Nat) (s3 s6 s7 s8 s9 s10 s11 s12 s13 s14 : Sl), ρ = st2 ns l (c : Int) s3 .un .un s6 s7 s8 s9 s10 s11 s12 s13 s14)
    (ds := rngL 0 2) (ρ := st2 ns l 0 .un .un .un .un .un .un .un .un .un .un .un .un) ⟨0, .un, .un, .un, .un, .un, .un, .un, .un, .un, .un, rfl⟩ fun j d' ρ hj h' => by
    obtain ⟨rfl, hj2⟩ := rngL_get hj
    obtain ⟨c, s3, s6, s7, s8, s9, s10, s11, s12, s13, s14, rfl⟩ := h'
    simp only [gN, RP_ok, List.set_cons_succ, List.set_cons_zero]
    obtain ⟨c', t6, t7, t8, t9, t10, t11, t12, t13, t14, e⟩ := turn (ns := ns) h (by omega) c (s3 := .fz (.int (0 + (j : Nat)))) (s4 := .un) (s5 := .un) (s6 := s6) (s7 := s7) (s8 := s8) (s9 := s9) (s10 := s10) (s11 := s11) (s12 := s12) (s13 := s13) (s14 := s14)
    rw [e, NxP_nx]
    exact ⟨c', _, t6, t7, t8, t9, t10, t11, t12, t13, t14, rfl⟩
  obtain ⟨v1, c1, h11, h12, e1⟩ := takeL h (by omega) c
  obtain ⟨v2, c2, h21, h22, e2⟩ := takeL h (by omega) c1
  obtain ⟨k, hk⟩ : ∃ k : Nat, v1 % 20 = (k : Int) := ⟨(v1 % 20).toNat, by omega⟩
  have r2 : rngOk 2 = true := rngOk_small (by decide) (by decide)
  have e : B_law 1000000 (startN 15 [.sq ns]) = .rt (.fz (.bl true)) := by
    unfold B_law
    refine st_set (.ow (.lst l)) [.fz (.sq ns), .fz (.lst l), .un, .un, .un, .un, .un, .un, .un, .un, .un, .un, .un, .un, .un] (callF_ok (consA_ok rfl (consA_ok rfl rfl)) el) rfl ?_
    refine st_own (.ow (.lst [.int 0])) (st2 ns l 0 .un .un .un .un .un .un .un .un .un .un .un .un) (lstF_ok rfl (by show 1 ≤ 100000; decide)) rfl ?_
    refine st_for (rngL 0 2) _ (by simp [r2]) eρ ?_
    have q1 := modX (w := 20) (e1 (st2 ns l (c : Int) s3 .un .un s6 s7 s8 s9 s10 s11 s12 s13 s14) rfl rfl) (by decide)
    rw [hk] at q1
    refine st_setX _ _ (st2 ns l (c1 : Int) s3 (.fz (.int (k : Int))) .un s6 s7 s8 s9 s10 s11 s12 s13 s14) q1 rfl ?_
    have q2 := modX (w := 50) (e2 (st2 ns l (c1 : Int) s3 (.fz (.int (k : Int))) .un s6 s7 s8 s9 s10 s11 s12 s13 s14) rfl rfl) (by decide)
    have q3 : op2X addD (xOf (toF (cV (.int 2)))) (op2X modD (callP 2 mi__law_take (consA (toV (rdF 1)) (nilA))) (xOf (toF (cV (.int 50))))) (st2 ns l (c1 : Int) s3 (.fz (.int (k : Int))) .un s6 s7 s8 s9 s10 s11 s12 s13 s14) = .ok (.int (2 + v2 % 50), st2 ns l (c2 : Int) s3 (.fz (.int (k : Int))) .un s6 s7 s8 s9 s10 s11 s12 s13 s14) := by
      generalize op2X modD (callP 2 mi__law_take (consA (toV (rdF 1)) (nilA))) (xOf (toF (cV (.int 50)))) = f at *
      unfold op2X
      show (R.ok (D.int 2, st2 ns l (c1 : Int) s3 (.fz (.int (k : Int))) .un s6 s7 s8 s9 s10 s11 s12 s13 s14)).bind _ = _
      rw [R.bind_ok, q2]; rfl
    refine st_setX _ _ (st2 ns l (c2 : Int) s3 (.fz (.int (k : Int))) (.fz (.int (2 + v2 % 50))) s6 s7 s8 s9 s10 s11 s12 s13 s14) q3 rfl ?_
    have m1 := row_ok (n := k) (a := 2 + v2 % 50) (by omega) (by omega) (by omega)
    have m2 := member_ok (n := k) (a := 2 + v2 % 50) (by omega) (by omega) (by omega)
    generalize 2 + v2 % 50 = a at *
    refine st_ret _ (toF_ok (op2_ok (toV_fz (callF_ok (ds := [.int (k : Int), .int a]) (consA_ok rfl (consA_ok rfl rfl)) m1)) (toV_fz (callF_ok (ds := [.int (k : Int), .int a]) (consA_ok rfl (consA_ok rfl rfl)) m2)) ((eqD_ok (eqR_int _ _)).trans (by simp))))
  exact congrArg outR e
end K03

namespace K03
open PySem PySem.Spec PyProof.Rows L2 Mp
open Mp (D Sem)
theorem all_mk {l : PySem.W.OpenLaw} {w : World} {K : PySem.W.Frag} {h : Heap} {mg : Str → Option Value} {fa : Addr} (X : K.In h) (G : h.Ns mainGlobals mg) (hfa : mg "law" = some (.ref fa))
    {f0 : Addr} {od0 an0 : Option Addr} {sl0 : Array (Option Value)} {oc0 kV0 dc0 pm0 cd0 ct0 : Value}
    (a0 : PySem.W.nsIn K mainGlobals "_law_numbers" = some (some (.ref f0))) (l0 : K.lookup f0 = some ⟨oc0, od0, .func (PySem.W.fnOf "_law_numbers" "_law_numbers" (defArgs s__law_numbers) (defBody s__law_numbers) (defScope s__law_numbers) .none kV0 dc0 pm0 an0 cd0 ct0), sl0⟩) (c0 : PySem.W.codeIn K cd0 "_law_numbers" = true) (k0 : PySem.W.keepIn K (.ref f0) = true)
    {f1 : Addr} {od1 an1 : Option Addr} {sl1 : Array (Option Value)} {oc1 kV1 dc1 pm1 cd1 ct1 : Value}
    (a1 : PySem.W.nsIn K mainGlobals "_law_take" = some (some (.ref f1))) (l1 : K.lookup f1 = some ⟨oc1, od1, .func (PySem.W.fnOf "_law_take" "_law_take" (defArgs s__law_take) (defBody s__law_take) (defScope s__law_take) .none kV1 dc1 pm1 an1 cd1 ct1), sl1⟩) (c1 : PySem.W.codeIn K cd1 "_law_take" = true) (k1 : PySem.W.keepIn K (.ref f1) = true)
    {f2 : Addr} {od2 an2 : Option Addr} {sl2 : Array (Option Value)} {oc2 kV2 dc2 pm2 cd2 ct2 : Value}
    (a2 : PySem.W.nsIn K mainGlobals "_law_member" = some (some (.ref f2))) (l2 : K.lookup f2 = some ⟨oc2, od2, .func (PySem.W.fnOf "_law_member" "_law_member" (defArgs s__law_member) (defBody s__law_member) (defScope s__law_member) .none kV2 dc2 pm2 an2 cd2 ct2), sl2⟩) (c2 : PySem.W.codeIn K cd2 "_law_member" = true) (k2 : PySem.W.keepIn K (.ref f2) = true)
    {f3 : Addr} {od3 an3 : Option Addr} {sl3 : Array (Option Value)} {oc3 kV3 dc3 pm3 cd3 ct3 : Value}
    (a3 : PySem.W.nsIn K mainGlobals "_law_numbers_of" = some (some (.ref f3))) (l3 : K.lookup f3 = some ⟨oc3, od3, .func (PySem.W.fnOf "_law_numbers_of" "_law_numbers_of" (defArgs s__law_numbers_of) (defBody s__law_numbers_of) (defScope s__law_numbers_of) .none kV3 dc3 pm3 an3 cd3 ct3), sl3⟩) (c3 : PySem.W.codeIn K cd3 "_law_numbers_of" = true) (k3 : PySem.W.keepIn K (.ref f3) = true)
    {f4 : Addr} {od4 an4 : Option Addr} {sl4 : Array (Option Value)} {oc4 kV4 dc4 pm4 cd4 ct4 : Value}
    (a4 : PySem.W.nsIn K mainGlobals "value_of" = some (some (.ref f4))) (l4 : K.lookup f4 = some ⟨oc4, od4, .func (PySem.W.fnOf "value_of" "value_of" (defArgs s_value_of) (defBody s_value_of) (defScope s_value_of) .none kV4 dc4 pm4 an4 cd4 ct4), sl4⟩) (c4 : PySem.W.codeIn K cd4 "value_of" = true) (k4 : PySem.W.keepIn K (.ref f4) = true)
    {f5 : Addr} {od5 an5 : Option Addr} {sl5 : Array (Option Value)} {oc5 kV5 dc5 pm5 cd5 ct5 : Value}
    (a5 : PySem.W.nsIn K mainGlobals "_is_member" = some (some (.ref f5))) (l5 : K.lookup f5 = some ⟨oc5, od5, .func (PySem.W.fnOf "_is_member" "_is_member" (defArgs s__is_member) (defBody s__is_member) (defScope s__is_member) .none kV5 dc5 pm5 an5 cd5 ct5), sl5⟩) (c5 : PySem.W.codeIn K cd5 "_is_member" = true) (k5 : PySem.W.keepIn K (.ref f5) = true)
    {f6 : Addr} {od6 an6 : Option Addr} {sl6 : Array (Option Value)} {oc6 kV6 dc6 pm6 cd6 ct6 : Value}
    (a6 : PySem.W.nsIn K mainGlobals "_power" = some (some (.ref f6))) (l6 : K.lookup f6 = some ⟨oc6, od6, .func (PySem.W.fnOf "_power" "_power" (defArgs s__power) (defBody s__power) (defScope s__power) .none kV6 dc6 pm6 an6 cd6 ct6), sl6⟩) (c6 : PySem.W.codeIn K cd6 "_power" = true) (k6 : PySem.W.keepIn K (.ref f6) = true)
    {f7 : Addr} {od7 an7 : Option Addr} {sl7 : Array (Option Value)} {oc7 kV7 dc7 pm7 cd7 ct7 : Value}
    (a7 : PySem.W.nsIn K mainGlobals "_is_power" = some (some (.ref f7))) (l7 : K.lookup f7 = some ⟨oc7, od7, .func (PySem.W.fnOf "_is_power" "_is_power" (defArgs s__is_power) (defBody s__is_power) (defScope s__is_power) .none kV7 dc7 pm7 an7 cd7 ct7), sl7⟩) (c7 : PySem.W.codeIn K cd7 "_is_power" = true) (k7 : PySem.W.keepIn K (.ref f7) = true)
    {f8 : Addr} {od8 an8 : Option Addr} {sl8 : Array (Option Value)} {oc8 kV8 dc8 pm8 cd8 ct8 : Value}
    (a8 : PySem.W.nsIn K mainGlobals "holds" = some (some (.ref f8))) (l8 : K.lookup f8 = some ⟨oc8, od8, .func (PySem.W.fnOf "holds" "holds" (defArgs s_holds) (defBody s_holds) (defScope s_holds) .none kV8 dc8 pm8 an8 cd8 ct8), sl8⟩) (c8 : PySem.W.codeIn K cd8 "holds" = true) (k8 : PySem.W.keepIn K (.ref f8) = true)
    {f9 : Addr} {od9 an9 : Option Addr} {sl9 : Array (Option Value)} {oc9 kV9 dc9 pm9 cd9 ct9 : Value}
    (a9 : PySem.W.nsIn K mainGlobals "row_member" = some (some (.ref f9))) (l9 : K.lookup f9 = some ⟨oc9, od9, .func (PySem.W.fnOf "row_member" "row_member" (defArgs s_row_member) (defBody s_row_member) (defScope s_row_member) .none kV9 dc9 pm9 an9 cd9 ct9), sl9⟩) (c9 : PySem.W.codeIn K cd9 "row_member" = true) (k9 : PySem.W.keepIn K (.ref f9) = true)
    {f10 : Addr} {od10 an10 : Option Addr} {sl10 : Array (Option Value)} {oc10 kV10 dc10 pm10 cd10 ct10 : Value}
    (a10 : PySem.W.nsIn K mainGlobals "_law_clean" = some (some (.ref f10))) (l10 : K.lookup f10 = some ⟨oc10, od10, .func (PySem.W.fnOf "_law_clean" "_law_clean" (defArgs s__law_clean) (defBody s__law_clean) (defScope s__law_clean) .none kV10 dc10 pm10 an10 cd10 ct10), sl10⟩) (c10 : PySem.W.codeIn K cd10 "_law_clean" = true) (k10 : PySem.W.keepIn K (.ref f10) = true)
    {f11 : Addr} {od11 an11 : Option Addr} {sl11 : Array (Option Value)} {oc11 kV11 dc11 pm11 cd11 ct11 : Value}
    (a11 : PySem.W.nsIn K mainGlobals "_law_given" = some (some (.ref f11))) (l11 : K.lookup f11 = some ⟨oc11, od11, .func (PySem.W.fnOf "_law_given" "_law_given" (defArgs s__law_given) (defBody s__law_given) (defScope s__law_given) .none kV11 dc11 pm11 an11 cd11 ct11), sl11⟩) (c11 : PySem.W.codeIn K cd11 "_law_given" = true) (k11 : PySem.W.keepIn K (.ref f11) = true)
    {f12 : Addr} {od12 an12 : Option Addr} {sl12 : Array (Option Value)} {oc12 kV12 dc12 pm12 cd12 ct12 : Value}
    (a12 : PySem.W.nsIn K mainGlobals "_law_under" = some (some (.ref f12))) (l12 : K.lookup f12 = some ⟨oc12, od12, .func (PySem.W.fnOf "_law_under" "_law_under" (defArgs s__law_under) (defBody s__law_under) (defScope s__law_under) .none kV12 dc12 pm12 an12 cd12 ct12), sl12⟩) (c12 : PySem.W.codeIn K cd12 "_law_under" = true) (k12 : PySem.W.keepIn K (.ref f12) = true)
    {f13 : Addr} {od13 an13 : Option Addr} {sl13 : Array (Option Value)} {oc13 kV13 dc13 pm13 cd13 ct13 : Value}
    (a13 : PySem.W.nsIn K mainGlobals "_law_told" = some (some (.ref f13))) (l13 : K.lookup f13 = some ⟨oc13, od13, .func (PySem.W.fnOf "_law_told" "_law_told" (defArgs s__law_told) (defBody s__law_told) (defScope s__law_told) .none kV13 dc13 pm13 an13 cd13 ct13), sl13⟩) (c13 : PySem.W.codeIn K cd13 "_law_told" = true) (k13 : PySem.W.keepIn K (.ref f13) = true)
    {f14 : Addr} {od14 an14 : Option Addr} {sl14 : Array (Option Value)} {oc14 kV14 dc14 pm14 cd14 ct14 : Value}
    (a14 : PySem.W.nsIn K mainGlobals "law" = some (some (.ref f14))) (l14 : K.lookup f14 = some ⟨oc14, od14, .func (PySem.W.fnOf "law" "law" (defArgs s_law) (defBody s_law) (defScope s_law) .none kV14 dc14 pm14 an14 cd14 ct14), sl14⟩) (c14 : PySem.W.codeIn K cd14 "law" = true) (k14 : PySem.W.keepIn K (.ref f14) = true)
    (z_len : PySem.W.nsIn K mainGlobals "len" = some none)
    (z_range : PySem.W.nsIn K mainGlobals "range" = some none)
    (z_abs : PySem.W.nsIn K mainGlobals "abs" = some none)
    (z_int : PySem.W.nsIn K mainGlobals "int" = some none)
    (z_min : PySem.W.nsIn K mainGlobals "min" = some none)
    (z_tuple : PySem.W.nsIn K mainGlobals "tuple" = some none)
    (z_isinstance : PySem.W.nsIn K mainGlobals "isinstance" = some none)
    (z_bool : PySem.W.nsIn K mainGlobals "bool" = some none)
    : ∃ fd : FuncData, (∀ (s : Shared) (v : Value), BindsTo s fd ⟨[v], []⟩ [("_law_script", v)]) ∧ ∀ base : Heap, K.In base → base.Ns mainGlobals mg → FnOk l.prog w K mg base CX0 4 fa fd ["_law_script"] (spLaw K 63) := by
  have e := hfa.symm.trans (PySem.W.mg_of X G a14)
  cases e
  have F0 := fun_mk (st := s__law_numbers) l0 c0 k0
  have b0 := F0.binds (ps := ["_law_script", "_law_many"]) fun _ _ _ _ _ _ us hl => match us, hl with | [_, _], _ => rfl
  have F1 := fun_mk (st := s__law_take) l1 c1 k1
  have b1 := F1.binds (ps := ["_law_numbers_here", "_law_place"]) fun _ _ _ _ _ _ us hl => match us, hl with | [_, _], _ => rfl
  have F2 := fun_mk (st := s__law_member) l2 c2 k2
  have b2 := F2.binds (ps := ["_law_n", "_law_a"]) fun _ _ _ _ _ _ us hl => match us, hl with | [_, _], _ => rfl
  have F3 := fun_mk (st := s__law_numbers_of) l3 c3 k3
  have b3 := F3.binds (ps := ["_law_kind", "_law_numbers_here", "_law_place"]) fun _ _ _ _ _ _ us hl => match us, hl with | [_, _, _], _ => rfl
  have F4 := fun_mk (st := s_value_of) l4 c4 k4
  have b4 := F4.binds (ps := ["polynomial", "values"]) fun _ _ _ _ _ _ us hl => match us, hl with | [_, _], _ => rfl
  have F5 := fun_mk (st := s__is_member) l5 c5 k5
  have b5 := F5.binds (ps := ["y", "n", "a"]) fun _ _ _ _ _ _ us hl => match us, hl with | [_, _, _], _ => rfl
  have F6 := fun_mk (st := s__power) l6 c6 k6
  have b6 := F6.binds (ps := ["x", "y"]) fun _ _ _ _ _ _ us hl => match us, hl with | [_, _], _ => rfl
  have F7 := fun_mk (st := s__is_power) l7 c7 k7
  have b7 := F7.binds (ps := ["z", "x", "y"]) fun _ _ _ _ _ _ us hl => match us, hl with | [_, _, _], _ => rfl
  have F8 := fun_mk (st := s_holds) l8 c8 k8
  have b8 := F8.binds (ps := ["relation", "values"]) fun _ _ _ _ _ _ us hl => match us, hl with | [_, _], _ => rfl
  have F9 := fun_mk (st := s_row_member) l9 c9 k9
  have b9 := F9.binds (ps := ["n", "a"]) fun _ _ _ _ _ _ us hl => match us, hl with | [_, _], _ => rfl
  have F10 := fun_mk (st := s__law_clean) l10 c10 k10
  have b10 := F10.binds (ps := ["_law_poly_here"]) fun _ _ _ _ _ _ us hl => match us, hl with | [_], _ => rfl
  have F11 := fun_mk (st := s__law_given) l11 c11 k11
  have b11 := F11.binds (ps := ["_law_value_here", "_law_number"]) fun _ _ _ _ _ _ us hl => match us, hl with | [_, _], _ => rfl
  have F12 := fun_mk (st := s__law_under) l12 c12 k12
  have b12 := F12.binds (ps := ["_law_a", "_law_b"]) fun _ _ _ _ _ _ us hl => match us, hl with | [_, _], _ => rfl
  have F13 := fun_mk (st := s__law_told) l13 c13 k13
  have b13 := F13.binds (ps := ["_law_kind", "_law_values_here"]) fun _ _ _ _ _ _ us hl => match us, hl with | [_, _], _ => rfl
  have F14 := fun_mk (st := s_law) l14 c14 k14
  have b14 := F14.binds (ps := ["_law_script"]) fun _ _ _ _ _ _ us hl => match us, hl with | [_], _ => rfl
  refine ⟨PySem.W.fnOf "law" "law" (defArgs s_law) (defBody s_law) (defScope s_law) .none kV14 dc14 pm14 an14 cd14 ct14, fun s v => .of_eq rfl, fun base _ _ => ?_⟩
  have D__law_numbers := d__law_numbers (P := l.prog) (w := w) (base := base) F0 (PySem.W.mg_of X G a0) b0 (PySem.W.mg_none_of X G z_len) (PySem.W.mg_none_of X G z_range) (PySem.W.mg_none_of X G z_abs) (PySem.W.mg_none_of X G z_int)
  have D__law_take := d__law_take (P := l.prog) (w := w) (base := base) F1 (PySem.W.mg_of X G a1) b1 (PySem.W.mg_none_of X G z_len)
  have D__law_member := d__law_member (P := l.prog) (w := w) (base := base) F2 (PySem.W.mg_of X G a2) b2 (PySem.W.mg_none_of X G z_range)
  have D__law_numbers_of := d__law_numbers_of (P := l.prog) (w := w) (base := base) F3 (PySem.W.mg_of X G a3) b3 D__law_take D__law_member (PySem.W.mg_none_of X G z_range)
  have D_value_of := d_value_of (P := l.prog) (w := w) (base := base) F4 (PySem.W.mg_of X G a4) b4
  have D__is_member := d__is_member (P := l.prog) (w := w) (base := base) F5 (PySem.W.mg_of X G a5) b5 (PySem.W.mg_none_of X G z_range)
  have D__power := d__power (P := l.prog) (w := w) (base := base) F6 (PySem.W.mg_of X G a6) b6
  have D__is_power := d__is_power (P := l.prog) (w := w) (base := base) F7 (PySem.W.mg_of X G a7) b7 D__power
  have D_holds := d_holds (P := l.prog) (w := w) (base := base) F8 (PySem.W.mg_of X G a8) b8 D_value_of D__is_power D__is_member (PySem.W.mg_none_of X G z_min)
  have D_row_member := d_row_member (P := l.prog) (w := w) (base := base) F9 (PySem.W.mg_of X G a9) b9 (PySem.W.mg_none_of X G z_range)
  have D__law_clean := d__law_clean (P := l.prog) (w := w) (base := base) F10 (PySem.W.mg_of X G a10) b10
  have D__law_given := d__law_given (P := l.prog) (w := w) (base := base) F11 (PySem.W.mg_of X G a11) b11 D__law_clean
  have D__law_under := d__law_under (P := l.prog) (w := w) (base := base) F12 (PySem.W.mg_of X G a12) b12 (PySem.W.mg_none_of X G z_range)
  have D__law_told := d__law_told (P := l.prog) (w := w) (base := base) F13 (PySem.W.mg_of X G a13) b13 D__law_under D__law_member (PySem.W.mg_none_of X G z_range)
  have D_law := d_law (P := l.prog) (w := w) (base := base) F14 (PySem.W.mg_of X G a14) b14 D__law_numbers D__law_take D__law_numbers_of D__law_given D__law_clean D_holds D__law_told D_row_member D__law_member (PySem.W.mg_none_of X G z_range) (PySem.W.mg_none_of X G z_len) (PySem.W.mg_none_of X G z_tuple) (PySem.W.mg_none_of X G z_isinstance) (PySem.W.mg_none_of X G z_bool)
  exact law_ok D_law law_true
end K03
open PySem PySem.W PyProof.Rows
set_option maxHeartbeats 0 in
theorem PySem.Challenge.cw_runroots_k03_relations_that_hold_holds : PySem.Challenge.rw_runroots_k03_relations_that_hold.Holds := by
  w_on; o_law; k_head; (case hw => w_witness2)
  k_fill
  refine L2.walk_ofB (l := PySem.Challenge.rw_runroots_k03_relations_that_hold) (n := 63) (k := 4) (x := "_law_script") (CX := fun _ => L2.CX0) (sp := fun w => Mp.spLaw _ 63) rfl (by decide) rfl ⟨rfl, by decide, by decide⟩ (fun w h Y => PySem.W.kIn_of Y) ?F (fun _ _ a ns hl hbt ho hS => ⟨a, ns, rfl, hS, hl, hbt, ho, fun _ => rfl⟩) (fun _ _ _ _ _ h => h)
  case F =>
    intro w mg fa h KX G hmg
    refine' K03.all_mk KX G hmg ?a0 ?l0 ?c0 ?k0 ?a1 ?l1 ?c1 ?k1 ?a2 ?l2 ?c2 ?k2 ?a3 ?l3 ?c3 ?k3 ?a4 ?l4 ?c4 ?k4 ?a5 ?l5 ?c5 ?k5 ?a6 ?l6 ?c6 ?k6 ?a7 ?l7 ?c7 ?k7 ?a8 ?l8 ?c8 ?k8 ?a9 ?l9 ?c9 ?k9 ?a10 ?l10 ?c10 ?k10 ?a11 ?l11 ?c11 ?k11 ?a12 ?l12 ?c12 ?k12 ?a13 ?l13 ?c13 ?k13 ?a14 ?l14 ?c14 ?k14 ?z_len ?z_range ?z_abs ?z_int ?z_min ?z_tuple ?z_isinstance ?z_bool
    (case a0 => k_is); (case l0 => k_is); (case c0 => k_is); (case k0 => k_is); (case a1 => k_is); (case l1 => k_is); (case c1 => k_is); (case k1 => k_is); (case a2 => k_is); (case l2 => k_is); (case c2 => k_is); (case k2 => k_is); (case a3 => k_is); (case l3 => k_is); (case c3 => k_is); (case k3 => k_is); (case a4 => k_is); (case l4 => k_is); (case c4 => k_is); (case k4 => k_is); (case a5 => k_is); (case l5 => k_is); (case c5 => k_is); (case k5 => k_is); (case a6 => k_is); (case l6 => k_is); (case c6 => k_is); (case k6 => k_is); (case a7 => k_is); (case l7 => k_is); (case c7 => k_is); (case k7 => k_is); (case a8 => k_is); (case l8 => k_is); (case c8 => k_is); (case k8 => k_is); (case a9 => k_is); (case l9 => k_is); (case c9 => k_is); (case k9 => k_is); (case a10 => k_is); (case l10 => k_is); (case c10 => k_is); (case k10 => k_is); (case a11 => k_is); (case l11 => k_is); (case c11 => k_is); (case k11 => k_is); (case a12 => k_is); (case l12 => k_is); (case c12 => k_is); (case k12 => k_is); (case a13 => k_is); (case l13 => k_is); (case c13 => k_is); (case k13 => k_is); (case a14 => k_is); (case l14 => k_is); (case c14 => k_is); (case k14 => k_is); (case z_len => k_is); (case z_range => k_is); (case z_abs => k_is); (case z_int => k_is); (case z_min => k_is); (case z_tuple => k_is); (case z_isinstance => k_is); (case z_bool => k_is)
