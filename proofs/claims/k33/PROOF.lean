import PyProof.Rows.All
import Wide.All
import OpenK.AllK
import Wide.FinOn
import HandS.ForMost
import HandS.Exc
import HandS.TryOnly
import HandS.ExcOwn
import HandS.WordsExc
import HandS.Wide
import HandS.EndBits
import HandS.IsInst
import HandS.Style
import HandS.WideBits
import HandS.TupAny
import PySem.Challenge.RW_runroots_k33_what_divides_a_member
set_option Elab.async false
set_option linter.all false
set_option maxRecDepth 100000
set_option maxHeartbeats 4000000
namespace Mp
open PySem PySem.Spec PyProof.Rows L2

/-! ### deep values -/
inductive D where
  | non | bl (b : Bool) | int (i : Int) | str (x : Str)
  | tup (ds : List D) | lst (ds : List D)
  | dk (ks : List Key) (ds : List D) | dt (ks : List (List Key)) (ds : List D)
  | obj (c : Str) (ns : List Str) (ds : List D)
  | sq (is : List Int)

/-- the script: a list of ints that is read -/
def ScrAt (K : PySem.W.Frag) (F : Hp) (a : Addr) (vs : List V) : Prop := F a = some (.lst vs) ∨ SqL K (fun _ => none) a vs
def TupAt (K : PySem.W.Frag) (F : Hp) (a : Addr) (vs : List V) : Prop := F a = some (.tup vs) ∨ SqT K (fun _ => none) a vs
def LstAt (_ : PySem.W.Frag) (F : Hp) (a : Addr) (vs : List V) : Prop := F a = some (.lst vs)

mutual
def Rep (K : PySem.W.Frag) (mg : Str → Option Value) (F : Hp) : D → V → Prop
  | .non, v => v = .non
  | .bl b, v => v = .bl b
  | .int i, v => v = .int i
  | .str x, v => v = .str x
  | .tup ds, v => ∃ a vs, v = .ref a ∧ TupAt K F a vs ∧ Reps K mg F ds vs
  | .lst ds, v => ∃ a vs, v = .ref a ∧ LstAt K F a vs ∧ Reps K mg F ds vs
  | .dk ks ds, v => ∃ a ws, v = .ref a ∧ F a = some (.dK ws) ∧ ws.map (·.1) = ks ∧ Reps K mg F ds (ws.map (·.2))
  | .dt ks ds, v => ∃ a ws, v = .ref a ∧ F a = some (.dT ws) ∧ ws.map (·.1) = ks ∧ Reps K mg F ds (ws.map (·.2))
  | .obj c ns ds, v => ∃ a C dx fs, v = .ref a ∧ mg c = some (.ref C) ∧ F a = some (.ins C dx fs) ∧ fs.map (·.1) = ns ∧ Reps K mg F ds (fs.map (·.2))
  | .sq is, v => ∃ a, v = .ref a ∧ ScrAt K F a (is.map V.int)
def Reps (K : PySem.W.Frag) (mg : Str → Option Value) (F : Hp) : List D → List V → Prop
  | [], vs => vs = []
  | d :: ds, vs => ∃ v r, vs = v :: r ∧ Rep K mg F d v ∧ Reps K mg F ds r
end

section
variable {K : PySem.W.Frag} {mg : Str → Option Value} {F F' : Hp}
theorem TupAt.mono {a : Addr} {vs : List V} (h : ∀ a u, F a = some u → F' a = some u) : TupAt K F a vs → TupAt K F' a vs
  | .inl e => .inl (h _ _ e)
  | .inr e => .inr e
theorem LstAt.mono {a : Addr} {vs : List V} (h : ∀ a u, F a = some u → F' a = some u) : LstAt K F a vs → LstAt K F' a vs := fun e => h _ _ e
theorem ScrAt.mono {a : Addr} {vs : List V} (h : ∀ a u, F a = some u → F' a = some u) : ScrAt K F a vs → ScrAt K F' a vs
  | .inl e => .inl (h _ _ e)
  | .inr e => .inr e
mutual
theorem Rep.mono (h : ∀ a u, F a = some u → F' a = some u) : ∀ {d : D} {v : V}, Rep K mg F d v → Rep K mg F' d v
  | .non, _, e => e
  | .bl _, _, e => e
  | .int _, _, e => e
  | .str _, _, e => e
  | .tup ds, v, e => by
    unfold Rep at e ⊢
    obtain ⟨a, vs, e1, e2, e3⟩ := e
    exact ⟨a, vs, e1, e2.mono h, Reps.mono h e3⟩
  | .lst ds, v, e => by
    unfold Rep at e ⊢
    obtain ⟨a, vs, e1, e2, e3⟩ := e
    exact ⟨a, vs, e1, e2.mono h, Reps.mono h e3⟩
  | .dk ks ds, v, e => by
    unfold Rep at e ⊢
    obtain ⟨a, ws, e1, e2, e3, e4⟩ := e
    exact ⟨a, ws, e1, h _ _ e2, e3, Reps.mono h e4⟩
  | .dt ks ds, v, e => by
    unfold Rep at e ⊢
    obtain ⟨a, ws, e1, e2, e3, e4⟩ := e
    exact ⟨a, ws, e1, h _ _ e2, e3, Reps.mono h e4⟩
  | .obj c ns ds, v, e => by
    unfold Rep at e ⊢
    obtain ⟨a, C, dx, fs, e1, e0, e2, e3, e4⟩ := e
    exact ⟨a, C, dx, fs, e1, e0, h _ _ e2, e3, Reps.mono h e4⟩
  | .sq is, v, e => by
    unfold Rep at e ⊢
    obtain ⟨a, e1, e2⟩ := e
    exact ⟨a, e1, e2.mono h⟩
theorem Reps.mono (h : ∀ a u, F a = some u → F' a = some u) : ∀ {ds : List D} {vs : List V}, Reps K mg F ds vs → Reps K mg F' ds vs
  | [], _, e => e
  | d :: ds, vs, e => by
    unfold Reps at e ⊢
    obtain ⟨v, r, e1, e2, e3⟩ := e
    exact ⟨v, r, e1, Rep.mono h e2, Reps.mono h e3⟩
end
theorem reps_nil {vs : List V} : Reps K mg F [] vs ↔ vs = [] := by unfold Reps; exact Iff.rfl
theorem reps_cons {d : D} {ds : List D} {vs : List V} : Reps K mg F (d :: ds) vs ↔ ∃ v r, vs = v :: r ∧ Rep K mg F d v ∧ Reps K mg F ds r := by
  constructor <;> intro h
  · unfold Reps at h; exact h
  · unfold Reps; exact h
theorem Reps.length : ∀ {ds : List D} {vs : List V}, Reps K mg F ds vs → vs.length = ds.length
  | [], _, e => by rw [reps_nil.mp e]; rfl
  | d :: ds, vs, e => by
    obtain ⟨v, r, rfl, _, e3⟩ := reps_cons.mp e
    rw [List.length_cons, List.length_cons, Reps.length e3]
theorem Reps.get : ∀ {ds : List D} {vs : List V} {i : Nat} {d : D}, Reps K mg F ds vs → ds[i]? = some d → ∃ v, vs[i]? = some v ∧ Rep K mg F d v
  | [], _, _, _, _, q => by simp at q
  | d :: ds, vs, 0, d', e, q => by
    obtain ⟨v, r, rfl, e2, e3⟩ := reps_cons.mp e
    have : d = d' := by simpa using q
    subst this
    exact ⟨v, rfl, e2⟩
  | d :: ds, vs, i + 1, d', e, q => by
    obtain ⟨v, r, rfl, e2, e3⟩ := reps_cons.mp e
    obtain ⟨u, h1, h2⟩ := Reps.get (i := i) e3 (by simpa using q)
    exact ⟨u, by simpa using h1, h2⟩
theorem Reps.get' : ∀ {ds : List D} {vs : List V} {i : Nat} {v : V}, Reps K mg F ds vs → vs[i]? = some v → ∃ d, ds[i]? = some d ∧ Rep K mg F d v
  | [], _, i, _, e, q => by rw [reps_nil.mp e] at q; simp at q
  | d :: ds, vs, 0, v', e, q => by
    obtain ⟨v, r, rfl, e2, e3⟩ := reps_cons.mp e
    have : v = v' := by simpa using q
    subst this
    exact ⟨d, rfl, e2⟩
  | d :: ds, vs, i + 1, v', e, q => by
    obtain ⟨v, r, rfl, e2, e3⟩ := reps_cons.mp e
    obtain ⟨u, h1, h2⟩ := Reps.get' (i := i) e3 (by simpa using q)
    exact ⟨u, by simpa using h1, h2⟩
theorem Reps.append : ∀ {ds es : List D} {vs ws : List V}, Reps K mg F ds vs → Reps K mg F es ws → Reps K mg F (ds ++ es) (vs ++ ws)
  | [], es, vs, ws, a, b => by rw [reps_nil.mp a]; exact b
  | d :: ds, es, vs, ws, a, b => by
    obtain ⟨v, r, rfl, e2, e3⟩ := reps_cons.mp a
    exact reps_cons.mpr ⟨v, r ++ ws, rfl, e2, Reps.append e3 b⟩
theorem Reps.one {d : D} {v : V} (h : Rep K mg F d v) : Reps K mg F [d] [v] := reps_cons.mpr ⟨v, [], rfl, h, reps_nil.mpr rfl⟩
theorem Reps.take : ∀ {ds : List D} {vs : List V} (n : Nat), Reps K mg F ds vs → Reps K mg F (ds.take n) (vs.take n)
  | ds, vs, 0, _ => by simpa using reps_nil.mpr rfl
  | [], vs, n + 1, e => by rw [reps_nil.mp e]; simpa using reps_nil.mpr rfl
  | d :: ds, vs, n + 1, e => by
    obtain ⟨v, r, rfl, e2, e3⟩ := reps_cons.mp e
    exact reps_cons.mpr ⟨v, r.take n, rfl, e2, Reps.take n e3⟩
theorem Reps.drop : ∀ {ds : List D} {vs : List V} (n : Nat), Reps K mg F ds vs → Reps K mg F (ds.drop n) (vs.drop n)
  | ds, vs, 0, e => by simpa using e
  | [], vs, n + 1, e => by rw [reps_nil.mp e]; simpa using reps_nil.mpr rfl
  | d :: ds, vs, n + 1, e => by
    obtain ⟨v, r, rfl, e2, e3⟩ := reps_cons.mp e
    exact Reps.drop n e3
theorem Reps.reverse : ∀ {ds : List D} {vs : List V}, Reps K mg F ds vs → Reps K mg F ds.reverse vs.reverse
  | [], vs, e => by rw [reps_nil.mp e]; exact reps_nil.mpr rfl
  | d :: ds, vs, e => by
    obtain ⟨v, r, rfl, e2, e3⟩ := reps_cons.mp e
    rw [List.reverse_cons, List.reverse_cons]
    exact (Reps.reverse e3).append (Reps.one e2)
theorem Reps.set {d : D} {v : V} (h : Rep K mg F d v) : ∀ {ds : List D} {vs : List V} (i : Nat), Reps K mg F ds vs → Reps K mg F (ds.set i d) (vs.set i v)
  | [], vs, i, e => by rw [reps_nil.mp e]; exact reps_nil.mpr rfl
  | d' :: ds, vs, 0, e => by
    obtain ⟨v, r, rfl, e2, e3⟩ := reps_cons.mp e
    exact reps_cons.mpr ⟨_, r, rfl, h, e3⟩
  | d' :: ds, vs, i + 1, e => by
    obtain ⟨v, r, rfl, e2, e3⟩ := reps_cons.mp e
    exact reps_cons.mpr ⟨v, r.set i _, rfl, e2, Reps.set h i e3⟩
/-- ints, texts, bools, None: the same values -/
theorem rep_int {i : Int} {v : V} : Rep K mg F (.int i) v ↔ v = .int i := by unfold Rep; exact Iff.rfl
theorem rep_bl {i : Bool} {v : V} : Rep K mg F (.bl i) v ↔ v = .bl i := by unfold Rep; exact Iff.rfl
theorem rep_str {i : Str} {v : V} : Rep K mg F (.str i) v ↔ v = .str i := by unfold Rep; exact Iff.rfl
theorem rep_non {v : V} : Rep K mg F .non v ↔ v = .non := by unfold Rep; exact Iff.rfl
theorem rep_tup {ds : List D} {v : V} : Rep K mg F (.tup ds) v ↔ ∃ a vs, v = .ref a ∧ TupAt K F a vs ∧ Reps K mg F ds vs := by
  constructor <;> intro h
  · unfold Rep at h; exact h
  · unfold Rep; exact h
theorem rep_lst {ds : List D} {v : V} : Rep K mg F (.lst ds) v ↔ ∃ a vs, v = .ref a ∧ LstAt K F a vs ∧ Reps K mg F ds vs := by
  constructor <;> intro h
  · unfold Rep at h; exact h
  · unfold Rep; exact h
theorem rep_dk {ks : List Key} {ds : List D} {v : V} : Rep K mg F (.dk ks ds) v ↔ ∃ a ws, v = .ref a ∧ F a = some (.dK ws) ∧ ws.map (·.1) = ks ∧ Reps K mg F ds (ws.map (·.2)) := by
  constructor <;> intro h
  · unfold Rep at h; exact h
  · unfold Rep; exact h
theorem rep_dt {ks : List (List Key)} {ds : List D} {v : V} : Rep K mg F (.dt ks ds) v ↔ ∃ a ws, v = .ref a ∧ F a = some (.dT ws) ∧ ws.map (·.1) = ks ∧ Reps K mg F ds (ws.map (·.2)) := by
  constructor <;> intro h
  · unfold Rep at h; exact h
  · unfold Rep; exact h
theorem rep_sq {is : List Int} {v : V} : Rep K mg F (.sq is) v ↔ ∃ a, v = .ref a ∧ ScrAt K F a (is.map V.int) := by
  constructor <;> intro h
  · unfold Rep at h; exact h
  · unfold Rep; exact h
theorem rep_obj {c : Str} {ns : List Str} {ds : List D} {v : V} : Rep K mg F (.obj c ns ds) v ↔ ∃ a C dx fs, v = .ref a ∧ mg c = some (.ref C) ∧ F a = some (.ins C dx fs) ∧ fs.map (·.1) = ns ∧ Reps K mg F ds (fs.map (·.2)) := by
  constructor <;> intro h
  · unfold Rep at h; exact h
  · unfold Rep; exact h
end

/-! ### heaps: what is frozen, what is owned -/
/-- all that is frozen is to be read -/
structure Sub (F H : Hp) : Prop where
  rd : ∀ a u, F a = some u → Rd H a u
  tup : ∀ a vs, H a = some (.tup vs) → F a = some (.tup vs)
/-- from (F, H) to (F', H'): what stood stands as it was, what was frozen is; nothing is frozen but that or new objects -/
structure Ext (F H F' H' : Hp) : Prop where
  sub : Sub F' H'
  keep : ∀ a o, H a = some o → H' a = some o
  frz : ∀ a u, F a = some u → F' a = some u
  new : ∀ a u, F' a = some u → F a = some u ∨ H a = none
theorem Ext.refl {F H : Hp} (h : Sub F H) : Ext F H F H := ⟨h, fun _ _ e => e, fun _ _ e => e, fun _ _ e => .inl e⟩
theorem Ext.trans {F H F1 H1 F2 H2 : Hp} (a : Ext F H F1 H1) (b : Ext F1 H1 F2 H2) : Ext F H F2 H2 where
  sub := b.sub
  keep := fun c o e => b.keep c o (a.keep c o e)
  frz := fun c u e => b.frz c u (a.frz c u e)
  new := fun c u e => by
    rcases b.new c u e with q | q
    · exact a.new c u q
    · right
      cases h : H c with
      | none => rfl
      | some o => rw [a.keep c o h] at q; cases q
theorem Rd.keep {H H' : Hp} {a : Addr} {u : HO} (h : ∀ a o, H a = some o → H' a = some o) : Rd H a u → Rd H' a u
  | .inl e => .inl (h _ _ e)
  | .inr ⟨o, e⟩ => .inr ⟨o, h _ _ e⟩
theorem Ext.none {F H F' H' : Hp} (x : Ext F H F' H') {p : Addr} (h : H' p = none) : H p = none := by
  cases e : H p with
  | none => rfl
  | some o => rw [x.keep p o e] at h; cases h
theorem Sub.none {F H : Hp} (s : Sub F H) {p : Addr} (h : H p = none) : F p = none := by
  cases e : F p with
  | none => rfl
  | some u =>
    rcases s.rd p u e with q | ⟨o, q⟩ <;> rw [h] at q <;> cases q

/-- the object at p is of this content, its items are frozen -/
def OwnAt (K : PySem.W.Frag) (mg : Str → Option Value) (F H : Hp) (p : Addr) : D → Prop
  | .lst ds => ∃ vs, H p = some (.lst vs) ∧ Reps K mg F ds vs
  | .dk ks ds => ∃ ws, H p = some (.dK ws) ∧ ws.map (·.1) = ks ∧ Reps K mg F ds (ws.map (·.2))
  | .dt ks ds => ∃ ws, H p = some (.dT ws) ∧ ws.map (·.1) = ks ∧ Reps K mg F ds (ws.map (·.2))
  | .obj c ns ds => ∃ C dx fs, mg c = some (.ref C) ∧ H p = some (.ins C dx fs) ∧ fs.map (·.1) = ns ∧ Reps K mg F ds (fs.map (·.2))
  | _ => False
section
variable {K : PySem.W.Frag} {mg : Str → Option Value} {F H F' H' : Hp}
theorem OwnAt.ext (x : Ext F H F' H') {p : Addr} : ∀ {d : D}, OwnAt K mg F H p d → OwnAt K mg F' H' p d
  | .lst ds, ⟨vs, e, r⟩ => ⟨vs, x.keep _ _ e, r.mono x.frz⟩
  | .dk ks ds, ⟨vs, e, e2, r⟩ => ⟨vs, x.keep _ _ e, e2, r.mono x.frz⟩
  | .dt ks ds, ⟨vs, e, e2, r⟩ => ⟨vs, x.keep _ _ e, e2, r.mono x.frz⟩
  | .obj c ns ds, ⟨C, dx, fs, g, e, e2, r⟩ => ⟨C, dx, fs, g, x.keep _ _ e, e2, r.mono x.frz⟩
  | .non, h => h.elim
  | .bl _, h => h.elim
  | .int _, h => h.elim
  | .str _, h => h.elim
  | .tup _, h => h.elim
  | .sq _, h => h.elim
theorem OwnAt.there {p : Addr} : ∀ {d : D}, OwnAt K mg F H p d → ∃ o, H p = some o
  | .lst ds, ⟨vs, e, r⟩ => ⟨_, e⟩
  | .dk ks ds, ⟨vs, e, e2, r⟩ => ⟨_, e⟩
  | .dt ks ds, ⟨vs, e, e2, r⟩ => ⟨_, e⟩
  | .obj c ns ds, ⟨C, dx, fs, g, e, e2, r⟩ => ⟨_, e⟩
  | .non, h => h.elim
  | .bl _, h => h.elim
  | .int _, h => h.elim
  | .str _, h => h.elim
  | .tup _, h => h.elim
  | .sq _, h => h.elim
/-- to freeze what is owned -/
theorem OwnAt.freeze {p : Addr} : ∀ {d : D}, OwnAt K mg F H p d → Sub F H → F p = .none → ∃ u, H p = some u ∧ Rep K mg (upd F p u) d (.ref p) ∧ Sub (upd F p u) H ∧ (∀ a w, F a = some w → upd F p u a = some w) := by
  have go : ∀ {u : HO}, H p = some u → Sub F H → F p = none → Sub (upd F p u) H ∧ (∀ a w, F a = some w → upd F p u a = some w) := fun {u} e s n => by
    have keep : ∀ a w, F a = some w → upd F p u a = some w := fun a w h => by rw [upd_ne (ne_of_none h n)]; exact h
    refine ⟨⟨fun a w h => ?_, fun a vs h => keep _ _ (s.tup a vs h)⟩, keep⟩
    by_cases z : a = p
    · subst z; rw [upd_same] at h; cases h; exact .inl e
    · rw [upd_ne z] at h; exact s.rd a w h
  intro d h s n
  cases d with
  | lst ds =>
    obtain ⟨vs, e, r⟩ := h
    obtain ⟨g1, g2⟩ := go e s n
    exact ⟨_, e, rep_lst.mpr ⟨p, vs, rfl, upd_same, r.mono g2⟩, g1, g2⟩
  | dk ks ds =>
    obtain ⟨vs, e, e2, r⟩ := h
    obtain ⟨g1, g2⟩ := go e s n
    exact ⟨_, e, rep_dk.mpr ⟨p, vs, rfl, upd_same, e2, r.mono g2⟩, g1, g2⟩
  | dt ks ds =>
    obtain ⟨vs, e, e2, r⟩ := h
    obtain ⟨g1, g2⟩ := go e s n
    exact ⟨_, e, rep_dt.mpr ⟨p, vs, rfl, upd_same, e2, r.mono g2⟩, g1, g2⟩
  | obj c ns ds =>
    obtain ⟨C, dx, fs, g, e, e2, r⟩ := h
    obtain ⟨g1, g2⟩ := go e s n
    exact ⟨_, e, rep_obj.mpr ⟨p, C, dx, fs, rfl, g, upd_same, e2, r.mono g2⟩, g1, g2⟩
  | non => exact h.elim
  | bl _ => exact h.elim
  | int _ => exact h.elim
  | str _ => exact h.elim
  | tup _ => exact h.elim
  | sq _ => exact h.elim
end

/-! ### results and slots -/
inductive Sl where
  | un | fz (d : D) | ow (d : D)
inductive R (α : Type) where
  | ok (a : α) | ex (c : Str) (ns : List Str) (ds : List D) | no
def R.bind {α β : Type} : R α → (α → R β) → R β
  | .ok a, f => f a
  | .ex c ns ds, _ => .ex c ns ds
  | .no, _ => .no
@[simp] theorem R.bind_ok {α β : Type} {a : α} {f : α → R β} : (R.ok a).bind f = f a := rfl
@[simp] theorem R.bind_ex {α β : Type} {c ns ds} {f : α → R β} : (R.ex c ns ds : R α).bind f = .ex c ns ds := rfl
@[simp] theorem R.bind_no {α β : Type} {f : α → R β} : (R.no : R α).bind f = .no := rfl
abbrev Rho := List Sl

/-- the slots' contents -/
structure GoodM (K : PySem.W.Frag) (mg : Str → Option Value) (F H : Hp) (ρ : Rho) (σ : L2.St) : Prop where
  sub : Sub F H
  len : ρ.length = σ.length
  fz : ∀ (i : Nat) (d : D), ρ[i]? = some (.fz d) → ∃ v, σ[i]? = some (some v) ∧ Rep K mg F d v
  ow : ∀ (i : Nat) (d : D), ρ[i]? = some (.ow d) → ∃ p, σ[i]? = some (some (.ref p)) ∧ F p = none ∧ OwnAt K mg F H p d
  inj : ∀ (i j : Nat) (d e : D) (p : Addr), ρ[i]? = some (.ow d) → ρ[j]? = some (.ow e) → σ[i]? = some (some (.ref p)) → σ[j]? = some (some (.ref p)) → i = j

/-- a value, frozen or new -/
def Res (K : PySem.W.Frag) (mg : Str → Option Value) (H F' H' : Hp) : Sl → V → Prop
  | .fz d, v => Rep K mg F' d v
  | .ow d, v => ∃ p, v = .ref p ∧ H p = none ∧ F' p = none ∧ OwnAt K mg F' H' p d
  | .un, _ => False
/-- a value that is looked at -/
def Held (K : PySem.W.Frag) (mg : Str → Option Value) (F H : Hp) (d : D) (v : V) : Prop :=
  Rep K mg F d v ∨ ∃ p, v = .ref p ∧ OwnAt K mg F H p d
def Helds (K : PySem.W.Frag) (mg : Str → Option Value) (F H : Hp) : List D → List V → Prop
  | [], vs => vs = []
  | d :: ds, vs => ∃ v r, vs = v :: r ∧ Held K mg F H d v ∧ Helds K mg F H ds r
def RepX (K : PySem.W.Frag) (mg : Str → Option Value) (F H : Hp) (c : Str) (ns : List Str) (ds : List D) (cl : Value) (dx : Option Addr) : Prop :=
  ∃ C, mg c = some (.ref C) ∧ cl = .ref C ∧ match ns with
    | [] => dx = none
    | _ => ∃ a fs, dx = some a ∧ H a = some (.xd fs) ∧ fs.map (·.1) = ns ∧ Reps K mg F ds (fs.map (·.2))

section
variable {K : PySem.W.Frag} {mg : Str → Option Value} {F H F' H' : Hp} {ρ : Rho} {σ : L2.St}
theorem Held.ext (x : Ext F H F' H') {d : D} {v : V} : Held K mg F H d v → Held K mg F' H' d v
  | .inl r => .inl (r.mono x.frz)
  | .inr ⟨p, e, o⟩ => .inr ⟨p, e, o.ext x⟩
theorem Helds.ext (x : Ext F H F' H') : ∀ {ds : List D} {vs : List V}, Helds K mg F H ds vs → Helds K mg F' H' ds vs
  | [], _, e => e
  | d :: ds, vs, ⟨v, r, e, h, t⟩ => ⟨v, r, e, h.ext x, Helds.ext x t⟩
theorem GoodM.ext (g : GoodM K mg F H ρ σ) (x : Ext F H F' H') : GoodM K mg F' H' ρ σ where
  sub := x.sub
  len := g.len
  fz := fun i d e => let ⟨v, h, r⟩ := g.fz i d e; ⟨v, h, r.mono x.frz⟩
  ow := fun i d e => by
    obtain ⟨p, h, n, o⟩ := g.ow i d e
    refine ⟨p, h, ?_, o.ext x⟩
    cases q : F' p with
    | none => rfl
    | some u =>
      rcases x.new p u q with z | z
      · rw [n] at z; cases z
      · obtain ⟨o, eo⟩ := o.there
        rw [z] at eo; cases eo
  inj := g.inj
theorem Res.held {s : Sl} {v : V} : Res K mg H F' H' s v → ∃ d, (s = .fz d ∨ s = .ow d) ∧ Held K mg F' H' d v := by
  cases s with
  | fz d => exact fun r => ⟨d, .inl rfl, .inl r⟩
  | ow d => exact fun ⟨p, e, _, _, o⟩ => ⟨d, .inr rfl, .inr ⟨p, e, o⟩⟩
  | un => exact fun h => h.elim
theorem held_int {i : Int} {v : V} : Held K mg F H (.int i) v ↔ v = .int i := by
  constructor
  · rintro (r | ⟨p, _, o⟩)
    · exact rep_int.mp r
    · exact o.elim
  · exact fun e => .inl (rep_int.mpr e)
theorem held_bl {i : Bool} {v : V} : Held K mg F H (.bl i) v ↔ v = .bl i := by
  constructor
  · rintro (r | ⟨p, _, o⟩)
    · exact rep_bl.mp r
    · exact o.elim
  · exact fun e => .inl (rep_bl.mpr e)
theorem held_str {i : Str} {v : V} : Held K mg F H (.str i) v ↔ v = .str i := by
  constructor
  · rintro (r | ⟨p, _, o⟩)
    · exact rep_str.mp r
    · exact o.elim
  · exact fun e => .inl (rep_str.mpr e)
theorem held_non {v : V} : Held K mg F H .non v ↔ v = .non := by
  constructor
  · rintro (r | ⟨p, _, o⟩)
    · exact rep_non.mp r
    · exact o.elim
  · exact fun e => .inl (rep_non.mpr e)
theorem TupAt.sq (s : Sub F H) {a : Addr} {vs : List V} : TupAt K F a vs → SqT K H a vs
  | .inl e => .inl (s.rd _ _ e)
  | .inr (.inl (.inl e)) => nomatch e
  | .inr (.inl (.inr ⟨_, e⟩)) => nomatch e
  | .inr (.inr e) => .inr e
theorem LstAt.sq (s : Sub F H) {a : Addr} {vs : List V} : LstAt K F a vs → SqL K H a vs := fun e => .inl (s.rd _ _ e)
theorem ScrAt.sq (s : Sub F H) {a : Addr} {vs : List V} : ScrAt K F a vs → SqL K H a vs
  | .inl e => .inl (s.rd _ _ e)
  | .inr (.inl (.inl e)) => nomatch e
  | .inr (.inl (.inr ⟨_, e⟩)) => nomatch e
  | .inr (.inr e) => .inr e
theorem Held.sq (s : Sub F H) {is : List Int} {v : V} (h : Held K mg F H (.sq is) v) : ∃ a, v = .ref a ∧ ScrAt K F a (is.map V.int) := by
  rcases h with r | ⟨p, e, o⟩
  · exact rep_sq.mp r
  · exact o.elim
theorem reps_ints : ∀ is : List Int, Reps K mg F (is.map .int) (is.map V.int)
  | [] => reps_nil.mpr rfl
  | i :: is => reps_cons.mpr ⟨_, _, rfl, rep_int.mpr rfl, reps_ints is⟩
/-- a list that is looked at -/
theorem Held.lstR (s : Sub F H) {ds : List D} {v : V} (h : Held K mg F H (.lst ds) v) : ∃ a vs, v = .ref a ∧ Rd H a (.lst vs) ∧ Reps K mg F ds vs := by
  rcases h with r | ⟨p, e, vs, o, r⟩
  · obtain ⟨a, vs, e1, e2, e3⟩ := rep_lst.mp r
    exact ⟨a, vs, e1, s.rd _ _ e2, e3⟩
  · exact ⟨p, vs, e, .inl o, r⟩
theorem Held.lst (s : Sub F H) {ds : List D} {v : V} (h : Held K mg F H (.lst ds) v) : ∃ a vs, v = .ref a ∧ SqL K H a vs ∧ Reps K mg F ds vs := by
  rcases h with r | ⟨p, e, vs, o, r⟩
  · obtain ⟨a, vs, e1, e2, e3⟩ := rep_lst.mp r
    exact ⟨a, vs, e1, e2.sq s, e3⟩
  · exact ⟨p, vs, e, .inl (.inl o), r⟩
theorem Held.tup (s : Sub F H) {ds : List D} {v : V} (h : Held K mg F H (.tup ds) v) : ∃ a vs, v = .ref a ∧ SqT K H a vs ∧ Reps K mg F ds vs := by
  rcases h with r | ⟨p, e, o⟩
  · obtain ⟨a, vs, e1, e2, e3⟩ := rep_tup.mp r
    exact ⟨a, vs, e1, e2.sq s, e3⟩
  · exact o.elim
theorem Held.dk (s : Sub F H) {ks : List Key} {ds : List D} {v : V} (h : Held K mg F H (.dk ks ds) v) : ∃ a ws, v = .ref a ∧ Rd H a (.dK ws) ∧ ws.map (·.1) = ks ∧ Reps K mg F ds (ws.map (·.2)) := by
  rcases h with r | ⟨p, e, vs, o, e2, r⟩
  · obtain ⟨a, vs, e1, e2, e3, e4⟩ := rep_dk.mp r
    exact ⟨a, vs, e1, s.rd _ _ e2, e3, e4⟩
  · exact ⟨p, vs, e, .inl o, e2, r⟩
theorem Held.dt (s : Sub F H) {ks : List (List Key)} {ds : List D} {v : V} (h : Held K mg F H (.dt ks ds) v) : ∃ a ws, v = .ref a ∧ Rd H a (.dT ws) ∧ ws.map (·.1) = ks ∧ Reps K mg F ds (ws.map (·.2)) := by
  rcases h with r | ⟨p, e, vs, o, e2, r⟩
  · obtain ⟨a, vs, e1, e2, e3, e4⟩ := rep_dt.mp r
    exact ⟨a, vs, e1, s.rd _ _ e2, e3, e4⟩
  · exact ⟨p, vs, e, .inl o, e2, r⟩
end

end Mp

namespace Mp
open PySem PySem.Spec PyProof.Rows L2

abbrev SS := L2.St

section
variable (K : PySem.W.Frag) (mg : Str → Option Value) (W : WX)
def XPost (F H : Hp) (σ : SS) (c : Str) (ns : List Str) (ds : List D) : Prop := ∀ cl dx F' H', Ext F H F' H' → RepX K mg F' H' c ns ds cl dx → W cl dx σ H'
def EPost (F H : Hp) (σ : SS) (Q : VK) : R Sl → Prop
  | .ok s => ∀ v F' H', Ext F H F' H' → Res K mg H F' H' s v → Q v H'
  | .ex c ns ds => XPost K mg W F H σ c ns ds
  | .no => False
def BPost (F H : Hp) (σ : SS) (Q : VK) : R D → Prop
  | .ok d => ∀ v F' H', Ext F H F' H' → Held K mg F' H' d v → Q v H'
  | .ex c ns ds => XPost K mg W F H σ c ns ds
  | .no => False
def TPost (F H : Hp) (σ : SS) (Q : Bool → Hp → Prop) : R Bool → Prop
  | .ok b => ∀ F' H', Ext F H F' H' → Q b H'
  | .ex c ns ds => XPost K mg W F H σ c ns ds
  | .no => False
/-- arguments: all frozen; all looked at -/
def APost (F H : Hp) (σ : SS) (Q : List V → Hp → Prop) : R (List D) → Prop
  | .ok ds => ∀ vs F' H', Ext F H F' H' → Reps K mg F' ds vs → Q vs H'
  | .ex c ns ds => XPost K mg W F H σ c ns ds
  | .no => False
def LPost (F H : Hp) (σ : SS) (Q : List V → Hp → Prop) : R (List D) → Prop
  | .ok ds => ∀ vs F' H', Ext F H F' H' → Helds K mg F' H' ds vs → Q vs H'
  | .ex c ns ds => XPost K mg W F H σ c ns ds
  | .no => False
def tM (f : Rho → R Sl) : TE := fun σ H Q => ∃ F ρ, GoodM K mg F H ρ σ ∧ EPost K mg W F H σ Q (f ρ)
def tV (f : Rho → R D) : TE := fun σ H Q => ∃ F ρ, GoodM K mg F H ρ σ ∧ BPost K mg W F H σ Q (f ρ)
def tT (f : Rho → R Bool) : TT := fun σ H Q => ∃ F ρ, GoodM K mg F H ρ σ ∧ TPost K mg W F H σ Q (f ρ)
def tA (f : Rho → R (List D)) : TA := fun σ H Q => ∃ F ρ, GoodM K mg F H ρ σ ∧ APost K mg W F H σ Q (f ρ)
def tL (f : Rho → R (List D)) : TA := fun σ H Q => ∃ F ρ, GoodM K mg F H ρ σ ∧ LPost K mg W F H σ Q (f ρ)
end
/-- the value, new or frozen; the value, looked at; the test; the arguments -/
abbrev ME (X : Cx) (W : WX) (e : Expr) (f : Rho → R Sl) : Prop := PE X e (tM X.K X.mg W f)
abbrev MV (X : Cx) (W : WX) (e : Expr) (f : Rho → R D) : Prop := PE X e (tV X.K X.mg W f)
abbrev MT (X : Cx) (W : WX) (e : Expr) (f : Rho → R Bool) : Prop := PT X e (tT X.K X.mg W f)
abbrev MW (X : Cx) (W : WX) (e : Expr) (f : Rho → R Bool) : Prop := PW X e (tT X.K X.mg W f)
abbrev MA (X : Cx) (W : WX) (es : List Expr) (f : Rho → R (List D)) : Prop := PA X es (tA X.K X.mg W f)
abbrev ML (X : Cx) (W : WX) (es : List Expr) (f : Rho → R (List D)) : Prop := PA X es (tL X.K X.mg W f)

theorem pe_imp {X : Cx} {e : Expr} {t t' : TE} (h : PE X e t) (i : ∀ σ H Q, t' σ H Q → t σ H Q) : PE X e t' := ⟨fun pins s σ H Q I q => h.run pins s σ H Q I (i σ H Q q)⟩
theorem pt_imp {X : Cx} {e : Expr} {t t' : TT} (h : PT X e t) (i : ∀ σ H Q, t' σ H Q → t σ H Q) : PT X e t' := ⟨fun pins s σ H Q I q => h.run pins s σ H Q I (i σ H Q q)⟩
theorem pw_imp {X : Cx} {e : Expr} {t t' : TT} (h : PW X e t) (i : ∀ σ H Q, t' σ H Q → t σ H Q) : PW X e t' := ⟨fun wh pins s σ H Q I q => h.run wh pins s σ H Q I (i σ H Q q)⟩
theorem pa_imp {X : Cx} {es : List Expr} {t t' : TA} (h : PA X es t) (i : ∀ σ H Q, t' σ H Q → t σ H Q) : PA X es t' := ⟨fun pos pins s σ H Q I q => h.run pos pins s σ H Q I (i σ H Q q)⟩

/-! ### chaining -/
section
variable {K : PySem.W.Frag} {mg : Str → Option Value} {W : WX} {F H F1 H1 : Hp} {ρ : Rho} {σ : SS}
theorem XPost.ext (x : Ext F H F1 H1) {c ns ds} (h : XPost K mg W F H σ c ns ds) : XPost K mg W F1 H1 σ c ns ds := fun cl dx F' H' x' r => h cl dx F' H' (x.trans x') r
/-- look at a value, then go on -/
theorem tV_bind {f : Rho → R D} {β : Type} {k : D → R β} {Q : VK} (g : GoodM K mg F H ρ σ)
    (hx : ∀ c ns ds, f ρ = .ex c ns ds → XPost K mg W F H σ c ns ds) (hn : f ρ ≠ .no)
    (h : ∀ d v F' H', f ρ = .ok d → Ext F H F' H' → GoodM K mg F' H' ρ σ → Held K mg F' H' d v → Q v H') : tV K mg W f σ H Q := by
  refine ⟨F, ρ, g, ?_⟩
  cases e : f ρ with
  | ok d => exact fun v F' H' x r => h d v F' H' e x (g.ext x) r
  | ex c ns ds => exact hx c ns ds e
  | no => exact (hn e).elim
theorem tM_bind {f : Rho → R Sl} {Q : VK} (g : GoodM K mg F H ρ σ)
    (hx : ∀ c ns ds, f ρ = .ex c ns ds → XPost K mg W F H σ c ns ds) (hn : f ρ ≠ .no)
    (h : ∀ d v F' H', f ρ = .ok d → Ext F H F' H' → GoodM K mg F' H' ρ σ → Res K mg H F' H' d v → Q v H') : tM K mg W f σ H Q := by
  refine ⟨F, ρ, g, ?_⟩
  cases e : f ρ with
  | ok d => exact fun v F' H' x r => h d v F' H' e x (g.ext x) r
  | ex c ns ds => exact hx c ns ds e
  | no => exact (hn e).elim
theorem EPost.ext (x : Ext F H F1 H1) {Q : VK} : ∀ {r : R Sl}, EPost K mg W F H σ Q r → EPost K mg W F1 H1 σ Q r
  | .ok s, h => fun v F' H' x' r => h v F' H' (x.trans x') (by
      cases s with
      | fz d => exact r
      | ow d => obtain ⟨p, e, n, m, o⟩ := r; exact ⟨p, e, x.none n, m, o⟩
      | un => exact r)
  | .ex c ns ds, h => XPost.ext x h
  | .no, h => h
theorem BPost.ext (x : Ext F H F1 H1) {Q : VK} : ∀ {r : R D}, BPost K mg W F H σ Q r → BPost K mg W F1 H1 σ Q r
  | .ok s, h => fun v F' H' x' r => h v F' H' (x.trans x') r
  | .ex c ns ds, h => XPost.ext x h
  | .no, h => h
theorem TPost.ext (x : Ext F H F1 H1) {Q : Bool → Hp → Prop} : ∀ {r : R Bool}, TPost K mg W F H σ Q r → TPost K mg W F1 H1 σ Q r
  | .ok s, h => fun F' H' x' => h F' H' (x.trans x')
  | .ex c ns ds, h => XPost.ext x h
  | .no, h => h
theorem APost.ext (x : Ext F H F1 H1) {Q : List V → Hp → Prop} : ∀ {r : R (List D)}, APost K mg W F H σ Q r → APost K mg W F1 H1 σ Q r
  | .ok s, h => fun v F' H' x' r => h v F' H' (x.trans x') r
  | .ex c ns ds, h => XPost.ext x h
  | .no, h => h
theorem LPost.ext (x : Ext F H F1 H1) {Q : List V → Hp → Prop} : ∀ {r : R (List D)}, LPost K mg W F H σ Q r → LPost K mg W F1 H1 σ Q r
  | .ok s, h => fun v F' H' x' r => h v F' H' (x.trans x') r
  | .ex c ns ds, h => XPost.ext x h
  | .no, h => h
/-- generic: P is one of the posts, closed under ext -/
theorem tV_then {f : Rho → R D} {β : Type} {k : D → R β} {P : Hp → Hp → R β → Prop} {Q : VK} (g : GoodM K mg F H ρ σ) (hp : P F H ((f ρ).bind k))
    (px : ∀ c ns ds, P F H (.ex c ns ds) → XPost K mg W F H σ c ns ds) (pn : ¬ P F H .no) (pe : ∀ F' H' r, Ext F H F' H' → P F H r → P F' H' r)
    (h : ∀ d v F' H', f ρ = .ok d → Ext F H F' H' → GoodM K mg F' H' ρ σ → Held K mg F' H' d v → P F' H' (k d) → Q v H') : tV K mg W f σ H Q := by
  refine tV_bind (β := β) (k := k) g (fun c ns ds e => px c ns ds (by rw [e] at hp; exact hp)) (fun e => pn (by rw [e] at hp; exact hp)) fun d v F' H' e x g' r => h d v F' H' e x g' r (pe F' H' _ x (by rw [e] at hp; exact hp))
theorem tM_then {f : Rho → R Sl} {β : Type} {k : Sl → R β} {P : Hp → Hp → R β → Prop} {Q : VK} (g : GoodM K mg F H ρ σ) (hp : P F H ((f ρ).bind k))
    (px : ∀ c ns ds, P F H (.ex c ns ds) → XPost K mg W F H σ c ns ds) (pn : ¬ P F H .no) (pe : ∀ F' H' r, Ext F H F' H' → P F H r → P F' H' r)
    (h : ∀ d v F' H', f ρ = .ok d → Ext F H F' H' → GoodM K mg F' H' ρ σ → Res K mg H F' H' d v → P F' H' (k d) → Q v H') : tM K mg W f σ H Q := by
  refine tM_bind g (fun c ns ds e => px c ns ds (by rw [e] at hp; exact hp)) (fun e => pn (by rw [e] at hp; exact hp)) fun d v F' H' e x g' r => h d v F' H' e x g' r (pe F' H' _ x (by rw [e] at hp; exact hp))
end

/-! ### the meanings -/
@[simp] def rdV (i : Nat) : Rho → R D := fun ρ => match ρ[i]? with
  | some (.fz d) => .ok d
  | some (.ow d) => .ok d
  | _ => .no
@[simp] def rdF (i : Nat) : Rho → R Sl := fun ρ => match ρ[i]? with
  | some (.fz d) => .ok (.fz d)
  | _ => .no
@[simp] def cV (d : D) : Rho → R D := fun _ => .ok d
@[simp] def slD : Sl → R D
  | .fz d => .ok d
  | .ow d => .ok d
  | .un => .no
@[simp] def toV (f : Rho → R Sl) : Rho → R D := fun ρ => (f ρ).bind slD
@[simp] def flatD : D → Bool
  | .non => true | .bl _ => true | .int _ => true | .str _ => true | _ => false
@[simp] def toF (f : Rho → R D) : Rho → R Sl := fun ρ => (f ρ).bind fun d => if flatD d then .ok (.fz d) else .no
@[simp] def op2 (g : D → D → R D) (f h : Rho → R D) : Rho → R D := fun ρ => (f ρ).bind fun a => (h ρ).bind fun b => g a b
@[simp] def op2S (g : D → D → R Sl) (f h : Rho → R D) : Rho → R Sl := fun ρ => (f ρ).bind fun a => (h ρ).bind fun b => g a b
@[simp] def op1 (g : D → R D) (f : Rho → R D) : Rho → R D := fun ρ => (f ρ).bind g
@[simp] def asB : D → R Bool
  | .bl b => .ok b
  | _ => .no
@[simp] def toT (f : Rho → R D) : Rho → R Bool := fun ρ => (f ρ).bind asB
@[simp] def andT (f g : Rho → R Bool) : Rho → R Bool := fun ρ => (f ρ).bind fun b => if b then g ρ else .ok false
@[simp] def orT (f g : Rho → R Bool) : Rho → R Bool := fun ρ => (f ρ).bind fun b => if b then .ok true else g ρ
@[simp] def notT (f : Rho → R Bool) : Rho → R Bool := fun ρ => (f ρ).bind fun b => .ok (!b)
@[simp] def iteM {α : Type} (c : Rho → R Bool) (f g : Rho → R α) : Rho → R α := fun ρ => (c ρ).bind fun b => if b then f ρ else g ρ
@[simp] def ofT (f : Rho → R Bool) : Rho → R D := fun ρ => (f ρ).bind fun b => .ok (.bl b)
@[simp] def nilA : Rho → R (List D) := fun _ => .ok []
@[simp] def consA (f : Rho → R D) (g : Rho → R (List D)) : Rho → R (List D) := fun ρ => (f ρ).bind fun d => (g ρ).bind fun ds => .ok (d :: ds)

section
variable {X : Cx} {W : WX} {e a b : Expr} {pos : Pos} {f h : Rho → R D} {m n : Rho → R Sl}

theorem held_slD {K : PySem.W.Frag} {mg : Str → Option Value} {H F' H' : Hp} {s : Sl} {v : V} (r : Res K mg H F' H' s v) : ∃ d, slD s = .ok d ∧ Held K mg F' H' d v := by
  obtain ⟨d, e, h⟩ := r.held
  rcases e with rfl | rfl <;> exact ⟨d, rfl, h⟩
/-- what is computed is looked at -/
theorem mv_of (he : ME X W e m) : MV X W e (toV m) := by
  refine pe_imp he fun σ H Q ⟨F, ρ, g, q⟩ => ?_
  refine tM_then (P := fun F H => BPost X.K X.mg W F H σ Q) g q (fun _ _ _ z => z) (fun z => z) (fun F' H' r x z => z.ext x) fun s v F' H' _ x g' r z => ?_
  obtain ⟨d, e, hd⟩ := held_slD r
  rw [e] at z
  exact z v F' H' (.refl g'.sub) hd
theorem held_flat {K : PySem.W.Frag} {mg : Str → Option Value} {F H : Hp} {d : D} {v : V} (fl : flatD d = true) (h : Held K mg F H d v) : Rep K mg F d v := by
  rcases h with r | ⟨p, _, o⟩
  · exact r
  · cases d <;> first | exact o.elim | cases fl
/-- a plain value is its own copy -/
theorem me_of (he : MV X W e f) : ME X W e (toF f) := by
  refine pe_imp he fun σ H Q ⟨F, ρ, g, q⟩ => ?_
  refine tV_then (P := fun F H => EPost X.K X.mg W F H σ Q) g q (fun _ _ _ z => z) (fun z => z) (fun F' H' r x z => z.ext x) fun d v F' H' _ x g' r z => ?_
  cases fl : flatD d with
  | false => rw [if_neg (by rw [fl]; decide)] at z; exact z.elim
  | true =>
    rw [if_pos fl] at z
    exact z v F' H' (.refl g'.sub) (held_flat fl r)
theorem mv_v (i : Nat) {x : Str} {pos : Pos} (hN : X.N[i]? = some x := by rfl) (hv : Vis X.env.scope x := by first | exact Or.inl rfl | exact Or.inr (Or.inl rfl) | exact Or.inr (Or.inr rfl)) (hd : (x == ("__debug__" : Str)) = false := by decide)
    (hcd : (x == ("__classdict__" : Str)) = false := by decide) : MV X W (.Name x pos) (rdV i) := by
  refine pe_imp (pe_var hN hv hd hcd) fun σ H Q ⟨F, ρ, g, q⟩ => ?_
  unfold rdV at q
  split at q
  · next d e =>
    obtain ⟨v, h1, h2⟩ := g.fz i d e
    exact ⟨v, h1, q v F H (.refl g.sub) (.inl h2)⟩
  · next d e =>
    obtain ⟨p, h1, h2, h3⟩ := g.ow i d e
    exact ⟨_, h1, q _ F H (.refl g.sub) (.inr ⟨p, rfl, h3⟩)⟩
  · exact q.elim
theorem me_v (i : Nat) {x : Str} {pos : Pos} (hN : X.N[i]? = some x := by rfl) (hv : Vis X.env.scope x := by first | exact Or.inl rfl | exact Or.inr (Or.inl rfl) | exact Or.inr (Or.inr rfl)) (hd : (x == ("__debug__" : Str)) = false := by decide)
    (hcd : (x == ("__classdict__" : Str)) = false := by decide) : ME X W (.Name x pos) (rdF i) := by
  refine pe_imp (pe_var hN hv hd hcd) fun σ H Q ⟨F, ρ, g, q⟩ => ?_
  unfold rdF at q
  split at q
  · next d e =>
    obtain ⟨v, h1, h2⟩ := g.fz i d e
    exact ⟨v, h1, q v F H (.refl g.sub) h2⟩
  · exact q.elim
theorem mv_c {v : V} {d : D} (h : PE X e (tC v)) (r : ∀ F H, Held X.K X.mg F H d v) : MV X W e (cV d) :=
  pe_imp h fun σ H Q ⟨F, ρ, g, q⟩ => q v F H (.refl g.sub) (r F H)
theorem mv_int {i j pos} : MV X W (.Constant (.int i) j pos) (cV (.int i)) := mv_c pe_int fun _ _ => held_int.mpr rfl
theorem mv_bl {i j pos} : MV X W (.Constant (.bool i) j pos) (cV (.bl i)) := mv_c pe_bl fun _ _ => held_bl.mpr rfl
theorem mv_non {j pos} : MV X W (.Constant .none j pos) (cV .non) := mv_c pe_non fun _ _ => held_non.mpr rfl
theorem mv_str {x j pos} : MV X W (.Constant (.str x) j pos) (cV (.str x)) := mv_c pe_str fun _ _ => held_str.mpr rfl

/-- two looks in a row -/
theorem two_looks {Q2 : V → V → Hp → Prop} {β : Type} {k : D → D → R β} {P : Hp → Hp → R β → Prop} {K : PySem.W.Frag} {mg : Str → Option Value} {F H : Hp} {ρ : Rho} {σ : SS} (g : GoodM K mg F H ρ σ) (hp : P F H ((f ρ).bind fun a => (h ρ).bind fun b => k a b))
    (px : ∀ F H c ns ds, P F H (.ex c ns ds) → XPost K mg W F H σ c ns ds) (pn : ∀ F H, ¬ P F H .no) (pe : ∀ F H F' H' r, Ext F H F' H' → P F H r → P F' H' r)
    (hh : ∀ d1 d2 v1 v2 F' H', Ext F H F' H' → GoodM K mg F' H' ρ σ → Held K mg F' H' d1 v1 → Held K mg F' H' d2 v2 → P F' H' (k d1 d2) → Q2 v1 v2 H') :
    tV K mg W f σ H fun x H1 => tV K mg W h σ H1 fun y H2 => Q2 x y H2 :=
  tV_then g hp (px F H) (pn F H) (fun F' H' r => pe F H F' H' r) fun d1 v1 F1 H1 _ x1 g1 r1 z1 =>
    tV_then g1 z1 (px F1 H1) (pn F1 H1) (fun F' H' r => pe F1 H1 F' H' r) fun d2 v2 F2 H2 _ x2 g2 r2 z2 => hh d1 d2 v1 v2 F2 H2 (x1.trans x2) g2 (r1.ext x2) r2 z2

/-- an operation on values r does what g does on deep values; nothing is made -/
def Sim2 (X : Cx) (r : R2) (g : D → D → R D) : Prop := ∀ F H d1 d2 v1 v2 d (Q : VK), Sub F H → Held X.K X.mg F H d1 v1 → Held X.K X.mg F H d2 v2 → g d1 d2 = .ok d → (∀ v, Held X.K X.mg F H d v → Q v H) → r v1 v2 H Q
/-- .. something new is made -/
def Sim2S (X : Cx) (r : R2) (g : D → D → R Sl) : Prop := ∀ F H d1 d2 v1 v2 s (Q : VK), Sub F H → Held X.K X.mg F H d1 v1 → Held X.K X.mg F H d2 v2 → g d1 d2 = .ok s → (∀ v F' H', Ext F H F' H' → Res X.K X.mg H F' H' s v → Q v H') → r v1 v2 H Q
def NoEx {α : Type} (r : R α) : Prop := ∀ c ns ds, r ≠ .ex c ns ds
theorem mv_op {op : Operator} {r : R2} {g : D → D → R D} (ho : OpR X (binaryOp op) r) (hs : Sim2 X r g) (hn : ∀ a b, NoEx (g a b)) (ha : MV X W a f) (hb : MV X W b h) : MV X W (.BinOp a op b pos) (op2 g f h) := by
  refine pe_imp (pe_op ho ha hb) fun σ H Q ⟨F, ρ, gd, q⟩ => ?_
  refine two_looks (P := fun F H => BPost X.K X.mg W F H σ Q) gd q (fun _ _ _ _ _ z => z) (fun _ _ z => z) (fun _ _ _ _ _ x z => z.ext x) fun d1 d2 v1 v2 F' H' x g' r1 r2 z => ?_
  cases e : g d1 d2 with
  | ok d => rw [e] at z; exact hs F' H' d1 d2 v1 v2 d Q g'.sub r1 r2 e fun v hv => z v F' H' (.refl g'.sub) hv
  | ex c ns ds => exact (hn d1 d2 c ns ds e).elim
  | no => rw [e] at z; exact z.elim
theorem me_op {op : Operator} {r : R2} {g : D → D → R Sl} (ho : OpR X (binaryOp op) r) (hs : Sim2S X r g) (hn : ∀ a b, NoEx (g a b)) (ha : MV X W a f) (hb : MV X W b h) : ME X W (.BinOp a op b pos) (op2S g f h) := by
  refine pe_imp (pe_op ho ha hb) fun σ H Q ⟨F, ρ, gd, q⟩ => ?_
  refine two_looks (P := fun F H => EPost X.K X.mg W F H σ Q) gd q (fun _ _ _ _ _ z => z) (fun _ _ z => z) (fun _ _ _ _ _ x z => z.ext x) fun d1 d2 v1 v2 F' H' x g' r1 r2 z => ?_
  cases e : g d1 d2 with
  | ok d => rw [e] at z; exact hs F' H' d1 d2 v1 v2 d Q g'.sub r1 r2 e fun v F2 H2 x2 hv => z v F2 H2 x2 hv
  | ex c ns ds => exact (hn d1 d2 c ns ds e).elim
  | no => rw [e] at z; exact z.elim
theorem mv_cmp {op : CmpOp} {r : R2} {g : D → D → R D} (ho : OpR X (compareOp op) r) (hs : Sim2 X r g) (hn : ∀ a b, NoEx (g a b)) (ha : MV X W a f) (hb : MV X W b h) (hm : behindInMarks op b = false) : MV X W (.Compare a [op] [b] pos) (op2 g f h) := by
  refine pe_imp (pe_cmpR ho ha hb hm) fun σ H Q ⟨F, ρ, gd, q⟩ => ?_
  refine two_looks (P := fun F H => BPost X.K X.mg W F H σ Q) gd q (fun _ _ _ _ _ z => z) (fun _ _ z => z) (fun _ _ _ _ _ x z => z.ext x) fun d1 d2 v1 v2 F' H' x g' r1 r2 z => ?_
  cases e : g d1 d2 with
  | ok d => rw [e] at z; exact hs F' H' d1 d2 v1 v2 d Q g'.sub r1 r2 e fun v hv => z v F' H' (.refl g'.sub) hv
  | ex c ns ds => exact (hn d1 d2 c ns ds e).elim
  | no => rw [e] at z; exact z.elim
theorem asB_ex {d : D} {c ns ds} (h : asB d = .ex c ns ds) : False := by cases d <;> cases h
theorem asB_ok {d : D} {b : Bool} (h : asB d = .ok b) : d = .bl b := by cases d <;> cases h; rfl
theorem mt_cmp {op : CmpOp} {r : R2} {g : D → D → R D} (ho : OpR X (compareOp op) r) (hs : Sim2 X r g) (hn : ∀ a b, NoEx (g a b)) (ha : MV X W a f) (hb : MV X W b h) (hm : behindInMarks op b = false) : MT X W (.Compare a [op] [b] pos) (toT (op2 g f h)) := by
  refine pt_imp (pt_cmpR ho ha hb hm) fun σ H Q ⟨F, ρ, gd, q⟩ => ?_
  have q' : TPost X.K X.mg W F H σ Q ((f ρ).bind fun a => (h ρ).bind fun b => (g a b).bind asB) := by
    unfold toT op2 at q
    cases e1 : f ρ with
    | ok d1 =>
      rw [e1] at q
      cases e2 : h ρ with
      | ok d2 => rw [e2] at q; exact q
      | ex c ns ds => rw [e2] at q; exact q
      | no => rw [e2] at q; exact q
    | ex c ns ds => rw [e1] at q; exact q
    | no => rw [e1] at q; exact q
  refine two_looks (Q2 := fun x y H2 => r x y H2 fun z H' => ∃ k, z = .bl k ∧ Q k H') (P := fun F H => TPost X.K X.mg W F H σ Q) gd q' (fun _ _ _ _ _ z => z) (fun _ _ z => z) (fun _ _ _ _ _ x z => z.ext x) fun d1 d2 v1 v2 F' H' x g' r1 r2 z => ?_
  cases e : g d1 d2 with
  | ok d =>
    rw [e] at z
    refine hs F' H' d1 d2 v1 v2 d _ g'.sub r1 r2 e fun v hv => ?_
    cases e3 : asB d with
    | ok b =>
      have z' : TPost X.K X.mg W F' H' σ Q (asB d) := z
      rw [e3] at z'
      have e4 := asB_ok e3
      subst e4
      exact ⟨b, held_bl.mp hv, z' F' H' (.refl g'.sub)⟩
    | ex c ns ds => exact (asB_ex e3).elim
    | no =>
      have z' : TPost X.K X.mg W F' H' σ Q (asB d) := z
      rw [e3] at z'
      exact z'.elim
  | ex c ns ds => exact (hn d1 d2 c ns ds e).elim
  | no => rw [e] at z; exact z.elim
/-- a bool as a test -/
theorem mt_val (ha : MV X W e f) (he : ∀ whole, isTrue e X.env whole = (do let v ← whole; standAt e.pos; holding [v] (truthy v)) := by intro _; rfl) : MT X W e (toT f) := by
  refine pt_imp (pt_val ha he) fun σ H Q ⟨F, ρ, gd, q⟩ => ?_
  show tV X.K X.mg W f σ H fun x H1 => ∃ c, x = .bl c ∧ Q c H1
  refine tV_then (P := fun F H => TPost X.K X.mg W F H σ Q) gd q (fun _ _ _ z => z) (fun z => z) (fun F' H' r x z => z.ext x) fun d v F' H' _ x g' r z => ?_
  cases e3 : asB d with
  | ok b =>
    rw [e3] at z
    have e4 := asB_ok e3
    subst e4
    exact ⟨b, held_bl.mp r, z F' H' (.refl g'.sub)⟩
  | ex c ns ds => exact (asB_ex e3).elim
  | no => rw [e3] at z; exact z.elim
variable {s t : Rho → R Bool} {rest : List Expr}
theorem tT_then {f : Rho → R Bool} {β : Type} {k : Bool → R β} {P : Hp → Hp → R β → Prop} {Q : Bool → Hp → Prop} {K : PySem.W.Frag} {mg : Str → Option Value} {F H : Hp} {ρ : Rho} {σ : SS} (g : GoodM K mg F H ρ σ) (hp : P F H ((f ρ).bind k))
    (px : ∀ c ns ds, P F H (.ex c ns ds) → XPost K mg W F H σ c ns ds) (pn : ¬ P F H .no) (pe : ∀ F' H' r, Ext F H F' H' → P F H r → P F' H' r)
    (h : ∀ d F' H', f ρ = .ok d → Ext F H F' H' → GoodM K mg F' H' ρ σ → P F' H' (k d) → Q d H') : tT K mg W f σ H Q := by
  refine ⟨F, ρ, g, ?_⟩
  cases e : f ρ with
  | ok d => exact fun F' H' x => h d F' H' e x (g.ext x) (pe F' H' _ x (by rw [e] at hp; exact hp))
  | ex c ns ds => exact px c ns ds (by rw [e] at hp; exact hp)
  | no => exact pn (by rw [e] at hp; exact hp)
theorem mw_and1 (ha : MT X W a s) : MW X W (.BoolOp .And [a] pos) s := pw_and1 ha
theorem mw_or1 (ha : MT X W a s) : MW X W (.BoolOp .Or [a] pos) s := pw_or1 ha
theorem mw_and (ha : MT X W a s) (hb : MW X W (.BoolOp .And (b :: rest) pos) t) : MW X W (.BoolOp .And (a :: b :: rest) pos) (andT s t) := by
  refine pw_imp (pw_and ha hb) fun σ H Q ⟨F, ρ, gd, q⟩ => ?_
  refine tT_then (P := fun F H => TPost X.K X.mg W F H σ Q) gd q (fun _ _ _ z => z) (fun z => z) (fun F' H' r x z => z.ext x) fun c F' H' _ x g' z => ?_
  cases c with
  | true => rw [if_pos rfl]; exact ⟨F', ρ, g', z⟩
  | false => rw [if_neg Bool.false_ne_true]; exact z F' H' (.refl g'.sub)
theorem mw_or (ha : MT X W a s) (hb : MW X W (.BoolOp .Or (b :: rest) pos) t) : MW X W (.BoolOp .Or (a :: b :: rest) pos) (orT s t) := by
  refine pw_imp (pw_or ha hb) fun σ H Q ⟨F, ρ, gd, q⟩ => ?_
  refine tT_then (P := fun F H => TPost X.K X.mg W F H σ Q) gd q (fun _ _ _ z => z) (fun z => z) (fun F' H' r x z => z.ext x) fun c F' H' _ x g' z => ?_
  cases c with
  | true => rw [if_pos rfl]; exact z F' H' (.refl g'.sub)
  | false => rw [if_neg Bool.false_ne_true]; exact ⟨F', ρ, g', z⟩
theorem mt_w (h : MW X W a s) : MT X W a s := PW.pt h
theorem mt_not (ha : MT X W a s) : MT X W (.UnaryOp .Not a pos) (notT s) := by
  refine pt_imp (pt_not ha) fun σ H Q ⟨F, ρ, gd, q⟩ => ?_
  refine tT_then (P := fun F H => TPost X.K X.mg W F H σ Q) gd q (fun _ _ _ z => z) (fun z => z) (fun F' H' r x z => z.ext x) fun c F' H' _ x g' z => ?_
  exact z F' H' (.refl g'.sub)
/-- and, or, not as values: bools -/
theorem bl_then {f : Rho → R D} {β : Type} {k : Bool → R β} {P : Hp → Hp → R β → Prop} {Q : Bool → Hp → Prop} {K : PySem.W.Frag} {mg : Str → Option Value} {F H : Hp} {ρ : Rho} {σ : SS} (g : GoodM K mg F H ρ σ) (hp : P F H ((toT f ρ).bind k))
    (px : ∀ c ns ds, P F H (.ex c ns ds) → XPost K mg W F H σ c ns ds) (pn : ¬ P F H .no) (pe : ∀ F' H' r, Ext F H F' H' → P F H r → P F' H' r)
    (h : ∀ d F' H', Ext F H F' H' → GoodM K mg F' H' ρ σ → P F' H' (k d) → Q d H') : tV K mg W f σ H fun x H1 => ∃ c, x = .bl c ∧ Q c H1 := by
  refine ⟨F, ρ, g, ?_⟩
  unfold toT at hp
  cases e : f ρ with
  | ok d =>
    rw [e] at hp
    intro v F' H' x r
    cases e3 : asB d with
    | ok b =>
      rw [R.bind_ok, e3] at hp
      have e4 := asB_ok e3
      subst e4
      exact ⟨b, held_bl.mp r, h b F' H' x (g.ext x) (pe F' H' _ x hp)⟩
    | ex c ns ds => exact (asB_ex e3).elim
    | no => rw [R.bind_ok, e3] at hp; exact (pn hp).elim
  | ex c ns ds => exact px c ns ds (by rw [e] at hp; exact hp)
  | no => exact pn (by rw [e] at hp; exact hp)
@[simp] def andV (f h : Rho → R D) : Rho → R D := fun ρ => (toT f ρ).bind fun b => if b then h ρ else .ok (.bl false)
@[simp] def orV (f h : Rho → R D) : Rho → R D := fun ρ => (toT f ρ).bind fun b => if b then .ok (.bl true) else h ρ
@[simp] def notV (f : Rho → R D) : Rho → R D := fun ρ => (toT f ρ).bind fun b => .ok (.bl (!b))
theorem mv_one {op} (ha : MV X W a f) : MV X W (.BoolOp op [a] pos) f := pe_one ha
theorem mv_and (ha : MV X W a f) (hb : MV X W (.BoolOp .And (b :: rest) pos) h) : MV X W (.BoolOp .And (a :: b :: rest) pos) (andV f h) := by
  refine pe_imp (pe_and ha hb) fun σ H Q ⟨F, ρ, gd, q⟩ => ?_
  refine bl_then (P := fun F H => BPost X.K X.mg W F H σ Q) gd q (fun _ _ _ z => z) (fun z => z) (fun F' H' r x z => z.ext x) fun c F' H' x g' z => ?_
  cases c with
  | true => rw [if_pos rfl]; exact ⟨F', ρ, g', z⟩
  | false => rw [if_neg Bool.false_ne_true]; exact z _ F' H' (.refl g'.sub) (held_bl.mpr rfl)
theorem mv_or (ha : MV X W a f) (hb : MV X W (.BoolOp .Or (b :: rest) pos) h) : MV X W (.BoolOp .Or (a :: b :: rest) pos) (orV f h) := by
  refine pe_imp (pe_or ha hb) fun σ H Q ⟨F, ρ, gd, q⟩ => ?_
  refine bl_then (P := fun F H => BPost X.K X.mg W F H σ Q) gd q (fun _ _ _ z => z) (fun z => z) (fun F' H' r x z => z.ext x) fun c F' H' x g' z => ?_
  cases c with
  | true => rw [if_pos rfl]; exact z _ F' H' (.refl g'.sub) (held_bl.mpr rfl)
  | false => rw [if_neg Bool.false_ne_true]; exact ⟨F', ρ, g', z⟩
theorem mv_not (ha : MV X W a f) : MV X W (.UnaryOp .Not a pos) (notV f) := by
  refine pe_imp (pe_not ha) fun σ H Q ⟨F, ρ, gd, q⟩ => ?_
  refine bl_then (P := fun F H => BPost X.K X.mg W F H σ Q) gd q (fun _ _ _ z => z) (fun z => z) (fun F' H' r x z => z.ext x) fun c F' H' x g' z => ?_
  exact z _ F' H' (.refl g'.sub) (held_bl.mpr rfl)
theorem mv_if {c : Expr} (hc : MT X W c s) (ha : MV X W a f) (hb : MV X W b h) : MV X W (.IfExp c a b pos) (iteM s f h) := by
  refine pe_imp (pe_ifExp hc ha hb) fun σ H Q ⟨F, ρ, gd, q⟩ => ?_
  refine tT_then (P := fun F H => BPost X.K X.mg W F H σ Q) gd q (fun _ _ _ z => z) (fun z => z) (fun F' H' r x z => z.ext x) fun c F' H' _ x g' z => ?_
  cases c with
  | true => rw [if_pos rfl]; exact ⟨F', ρ, g', z⟩
  | false => rw [if_neg Bool.false_ne_true]; exact ⟨F', ρ, g', z⟩
theorem me_if {c : Expr} (hc : MT X W c s) (ha : ME X W a m) (hb : ME X W b n) : ME X W (.IfExp c a b pos) (iteM s m n) := by
  refine pe_imp (pe_ifExp hc ha hb) fun σ H Q ⟨F, ρ, gd, q⟩ => ?_
  refine tT_then (P := fun F H => EPost X.K X.mg W F H σ Q) gd q (fun _ _ _ z => z) (fun z => z) (fun F' H' r x z => z.ext x) fun c F' H' _ x g' z => ?_
  cases c with
  | true => rw [if_pos rfl]; exact ⟨F', ρ, g', z⟩
  | false => rw [if_neg Bool.false_ne_true]; exact ⟨F', ρ, g', z⟩

/-! ### arguments -/
theorem ma_nil : MA X W [] nilA := pa_imp pa_nil fun σ H Q ⟨F, ρ, g, q⟩ => q [] F H (.refl g.sub) (reps_nil.mpr rfl)
theorem ml_nil : ML X W [] nilA := pa_imp pa_nil fun σ H Q ⟨F, ρ, g, q⟩ => q [] F H (.refl g.sub) rfl
/-- what is new is frozen -/
theorem freeze_res {K : PySem.W.Frag} {mg : Str → Option Value} {F H F' H' : Hp} {s : Sl} {v : V} (x : Ext F H F' H') (r : Res K mg H F' H' s v) : ∃ d F2, slD s = .ok d ∧ Ext F H F2 H' ∧ Rep K mg F2 d v := by
  cases s with
  | fz d => exact ⟨d, F', rfl, x, r⟩
  | un => exact r.elim
  | ow d =>
    obtain ⟨p, e, n, m, o⟩ := r
    obtain ⟨u, h1, h2, h3, h4⟩ := o.freeze x.sub m
    refine ⟨d, upd F' p u, rfl, ⟨h3, x.keep, fun a w q => h4 a w (x.frz a w q), fun a w q => ?_⟩, e ▸ h2⟩
    by_cases z : a = p
    · subst z; exact .inr n
    · rw [upd_ne z] at q; exact x.new a w q
def toA (f : Rho → R Sl) : Rho → R D := toV f
theorem ma_cons {es : List Expr} {fs : Rho → R (List D)} (he : ME X W e m) (hs : MA X W es fs) (hst : starEach (e :: es) X.env = (false, eval e X.env) :: starEach es X.env := by rfl) : MA X W (e :: es) (consA (toV m) fs) := by
  refine pa_imp (pa_cons he hs hst) fun σ H Q ⟨F, ρ, g, q⟩ => ?_
  show tM X.K X.mg W m σ H fun x H1 => tA X.K X.mg W fs σ H1 fun xs H2 => Q (x :: xs) H2
  have q' : APost X.K X.mg W F H σ Q ((m ρ).bind fun s => (slD s).bind fun d => (fs ρ).bind fun ds => .ok (d :: ds)) := by
    unfold consA toV at q
    cases e1 : m ρ <;> rw [e1] at q <;> exact q
  refine ⟨F, ρ, g, ?_⟩
  cases e1 : m ρ with
  | ex c ns ds => rw [e1] at q'; exact q'
  | no => rw [e1] at q'; exact q'
  | ok s =>
    rw [e1] at q'
    intro v F' H' x r
    obtain ⟨d, F2, e2, x2, r2⟩ := freeze_res x r
    have q2 : APost X.K X.mg W F H σ Q ((slD s).bind fun d => (fs ρ).bind fun ds => .ok (d :: ds)) := q'
    rw [e2] at q2
    have q3 : APost X.K X.mg W F H σ Q ((fs ρ).bind fun ds => .ok (d :: ds)) := q2
    refine ⟨F2, ρ, g.ext x2, ?_⟩
    cases e3 : fs ρ with
    | ex c ns ds => rw [e3] at q3; exact XPost.ext x2 q3
    | no => rw [e3] at q3; exact q3
    | ok ds =>
      rw [e3] at q3
      intro vs F3 H3 x3 r3
      exact q3 (v :: vs) F3 H3 (x2.trans x3) (reps_cons.mpr ⟨v, vs, rfl, r2.mono x3.frz, r3⟩)
theorem ml_cons {es : List Expr} {fs : Rho → R (List D)} (he : MV X W e f) (hs : ML X W es fs) (hst : starEach (e :: es) X.env = (false, eval e X.env) :: starEach es X.env := by rfl) : ML X W (e :: es) (consA f fs) := by
  refine pa_imp (pa_cons he hs hst) fun σ H Q ⟨F, ρ, g, q⟩ => ?_
  show tV X.K X.mg W f σ H fun x H1 => tL X.K X.mg W fs σ H1 fun xs H2 => Q (x :: xs) H2
  refine tV_then (P := fun F H => LPost X.K X.mg W F H σ Q) g q (fun _ _ _ z => z) (fun z => z) (fun F' H' r x z => z.ext x) fun d v F' H' _ x g' r z => ?_
  refine ⟨F', ρ, g', ?_⟩
  cases e3 : fs ρ with
  | ex c ns ds => rw [e3] at z; exact z
  | no => rw [e3] at z; exact z
  | ok ds =>
    rw [e3] at z
    intro vs F3 H3 x3 r3
    exact z (v :: vs) F3 H3 x3 ⟨v, vs, rfl, r.ext x3, r3⟩
end
end Mp

namespace Mp
open PySem PySem.Spec PyProof.Rows L2

inductive Out where
  | nx (ρ : Rho) | bk (ρ : Rho) | ct (ρ : Rho) | rt (s : Sl) | ex (c : Str) (ns : List Str) (ds : List D) (ρ : Rho) | no

structure Stt (K : PySem.W.Frag) (mg : Str → Option Value) (F0 H0 F H : Hp) (ρ : Rho) (σ : SS) : Prop where
  good : GoodM K mg F H ρ σ
  ext : Ext F0 H0 F H
  new : ∀ (i : Nat) (d : D) (p : Addr), ρ[i]? = some (.ow d) → σ[i]? = some (some (.ref p)) → H0 p = none
/-- what is frozen stands as it was -/
def Step (F H F' H' : Hp) : Prop := ∀ a u, F a = some u → F' a = some u ∧ H' a = H a
theorem Step.refl {F H : Hp} : Step F H F H := fun _ _ e => ⟨e, rfl⟩
theorem Step.trans {F H F1 H1 F2 H2 : Hp} (a : Step F H F1 H1) (b : Step F1 H1 F2 H2) : Step F H F2 H2 := fun c u e => by
  obtain ⟨h1, h2⟩ := a c u e
  obtain ⟨h3, h4⟩ := b c u h1
  exact ⟨h3, h4.trans h2⟩
theorem Ext.step {F H F' H' : Hp} (s : Sub F H) (x : Ext F H F' H') : Step F H F' H' := fun a u e => by
  refine ⟨x.frz a u e, ?_⟩
  rcases s.rd a u e with q | ⟨o, q⟩ <;> rw [q, x.keep _ _ q]
section
variable {K : PySem.W.Frag} {mg : Str → Option Value} {W : WX} {F0 H0 F H F' H' : Hp} {ρ : Rho} {σ : SS}
theorem Stt.grow (s : Stt K mg F0 H0 F H ρ σ) (x : Ext F H F' H') : Stt K mg F0 H0 F' H' ρ σ := ⟨s.good.ext x, s.ext.trans x, s.new⟩
/-- a slot is stored -/
theorem Stt.setFz (s : Stt K mg F0 H0 F H ρ σ) {d : D} {v : V} (i : Nat) (r : Rep K mg F d v) : Stt K mg F0 H0 F H (ρ.set i (.fz d)) (σ.set i (some v)) := by
  have hl := s.good.len
  have old : ∀ {j : Nat} {t : Sl}, (ρ.set i (.fz d))[j]? = some t → t ≠ .fz d ∨ j ≠ i → ρ[j]? = some t ∧ (σ.set i (some v))[j]? = σ[j]? := fun {j t} e h => by
    by_cases hj : j = i
    · subst hj
      rcases h with h | h
      · by_cases hlt : j < ρ.length
        · rw [List.getElem?_set_self hlt] at e; cases e; exact (h rfl).elim
        · rw [List.getElem?_eq_none (by simpa using hlt)] at e; cases e
      · exact (h rfl).elim
    · rw [List.getElem?_set_ne (Ne.symm hj)] at e
      exact ⟨e, List.getElem?_set_ne (Ne.symm hj)⟩
  refine ⟨⟨s.good.sub, by simpa using hl, fun j e h => ?_, fun j e h => ?_, fun j k e e' p h1 h2 h3 h4 => ?_⟩, s.ext, fun j e p h1 h2 => ?_⟩
  · by_cases hj : j = i
    · subst hj
      by_cases hlt : j < ρ.length
      · rw [List.getElem?_set_self hlt] at h; cases h
        exact ⟨v, List.getElem?_set_self (by omega), r⟩
      · rw [List.getElem?_eq_none (by simpa using hlt)] at h; cases h
    · obtain ⟨h1, h2⟩ := old h (.inr hj)
      rw [h2]; exact s.good.fz j e h1
  · obtain ⟨h1, h2⟩ := old h (.inl (fun z => nomatch z))
    rw [h2]; exact s.good.ow j e h1
  · obtain ⟨a1, a2⟩ := old h1 (.inl (fun z => nomatch z))
    obtain ⟨b1, b2⟩ := old h2 (.inl (fun z => nomatch z))
    rw [a2] at h3; rw [b2] at h4
    exact s.good.inj j k e e' p a1 b1 h3 h4
  · obtain ⟨a1, a2⟩ := old h1 (.inl (fun z => nomatch z))
    rw [a2] at h2
    exact s.new j e p a1 h2
theorem Stt.setOw (s : Stt K mg F0 H0 F H ρ σ) {d : D} {p : Addr} (i : Nat) (n0 : H0 p = none) (np : F p = none) (o : OwnAt K mg F H p d) (ne : ∀ (j : Nat) (e : D) (q : Addr), ρ[j]? = some (.ow e) → σ[j]? = some (some (.ref q)) → q ≠ p) :
    Stt K mg F0 H0 F H (ρ.set i (.ow d)) (σ.set i (some (.ref p))) := by
  have hl := s.good.len
  have look : ∀ {j : Nat} {t : Sl}, (ρ.set i (.ow d))[j]? = some t → (j = i ∧ t = .ow d ∧ (σ.set i (some (.ref p)))[j]? = some (some (.ref p))) ∨ (j ≠ i ∧ ρ[j]? = some t ∧ (σ.set i (some (.ref p)))[j]? = σ[j]?) := fun {j t} e => by
    by_cases hj : j = i
    · subst hj
      by_cases hlt : j < ρ.length
      · rw [List.getElem?_set_self hlt] at e; cases e; exact .inl ⟨rfl, rfl, List.getElem?_set_self (by omega)⟩
      · rw [List.getElem?_eq_none (by simpa using hlt)] at e; cases e
    · rw [List.getElem?_set_ne (Ne.symm hj)] at e
      exact .inr ⟨hj, e, List.getElem?_set_ne (Ne.symm hj)⟩
  refine ⟨⟨s.good.sub, by simpa using hl, fun j e h => ?_, fun j e h => ?_, fun j k e e' q h1 h2 h3 h4 => ?_⟩, s.ext, fun j e q h1 h2 => ?_⟩
  · rcases look h with ⟨_, z, _⟩ | ⟨_, h1, h2⟩
    · cases z
    · rw [h2]; exact s.good.fz j e h1
  · rcases look h with ⟨_, z, h2⟩ | ⟨_, h1, h2⟩
    · cases z; exact ⟨p, h2, np, o⟩
    · rw [h2]; exact s.good.ow j e h1
  · rcases look h1 with ⟨j1, _, j2⟩ | ⟨j1, a1, a2⟩
    · rcases look h2 with ⟨k1, _, k2⟩ | ⟨k1, b1, b2⟩
      · rw [j1, k1]
      · rw [j2] at h3; cases h3
        rw [b2] at h4
        exact (ne k e' p b1 h4 rfl).elim
    · rw [a2] at h3
      rcases look h2 with ⟨k1, _, k2⟩ | ⟨k1, b1, b2⟩
      · rw [k2] at h4; cases h4
        exact (ne j e p a1 h3 rfl).elim
      · rw [b2] at h4
        exact s.good.inj j k e e' q a1 b1 h3 h4
  · rcases look h1 with ⟨j1, _, j2⟩ | ⟨j1, a1, a2⟩
    · rw [j2] at h2; cases h2; exact n0
    · rw [a2] at h2; exact s.new j e q a1 h2
/-- an owned object is written -/
theorem Stt.write (s : Stt K mg F0 H0 F H ρ σ) {d d' : D} {p : Addr} {u : HO} {i : Nat} (h1 : ρ[i]? = some (.ow d)) (h2 : σ[i]? = some (some (.ref p))) (o : OwnAt K mg F (upd H p u) p d') (nt : ∀ vs, u ≠ .tup vs) :
    Stt K mg F0 H0 F (upd H p u) (ρ.set i (.ow d')) σ ∧ Step F H F (upd H p u) := by
  have np : F p = none := by
    obtain ⟨q, e, n, _⟩ := s.good.ow i d h1
    rw [h2] at e; cases e; exact n
  have n0 := s.new i d p h1 h2
  have hlt : i < ρ.length := (List.getElem?_eq_some_iff.mp h1).1
  have neF : ∀ a w, F a = some w → a ≠ p := fun a w e => ne_of_none e np
  have other : ∀ {q : Addr} {e : D}, q ≠ p → OwnAt K mg F H q e → OwnAt K mg F (upd H p u) q e := fun {q e} hq h => by
    cases e with
    | lst ds => obtain ⟨vs, a, b⟩ := h; exact ⟨vs, by rw [upd_ne hq]; exact a, b⟩
    | dk ks ds => obtain ⟨vs, a, b⟩ := h; exact ⟨vs, by rw [upd_ne hq]; exact a, b⟩
    | dt ks ds => obtain ⟨vs, a, b⟩ := h; exact ⟨vs, by rw [upd_ne hq]; exact a, b⟩
    | obj c ns ds => obtain ⟨C, dx, fs, g, a, b⟩ := h; exact ⟨C, dx, fs, g, by rw [upd_ne hq]; exact a, b⟩
    | _ => exact h.elim
  have look : ∀ {j : Nat} {t : Sl}, (ρ.set i (.ow d'))[j]? = some t → (j = i ∧ t = .ow d') ∨ (j ≠ i ∧ ρ[j]? = some t) := fun {j t} e => by
    by_cases hj : j = i
    · subst hj
      rw [List.getElem?_set_self hlt] at e; cases e; exact .inl ⟨rfl, rfl⟩
    · rw [List.getElem?_set_ne (Ne.symm hj)] at e
      exact .inr ⟨hj, e⟩
  have own : ∀ {j : Nat} {e : D}, (ρ.set i (.ow d'))[j]? = some (.ow e) → ∃ e', ρ[j]? = some (.ow e') := fun {j e} h => by
    rcases look h with ⟨rfl, _⟩ | ⟨_, a⟩
    · exact ⟨d, h1⟩
    · exact ⟨e, a⟩
  refine ⟨⟨⟨⟨fun a w e => ?_, fun a vs e => ?_⟩, by simpa using s.good.len, fun j e h => ?_, fun j e h => ?_, fun j k e e' q a b c1 c2 => ?_⟩, ⟨⟨fun a w e => ?_, fun a vs e => ?_⟩, fun a o e => ?_, s.ext.frz, s.ext.new⟩, fun j e q a b => ?_⟩, fun a w e => ⟨e, upd_ne (neF a w e)⟩⟩
  · rcases s.good.sub.rd a w e with z | ⟨o, z⟩
    · exact .inl (by rw [upd_ne (neF a w e)]; exact z)
    · exact .inr ⟨o, by rw [upd_ne (neF a w e)]; exact z⟩
  · by_cases z : a = p
    · subst z; rw [upd_same] at e; cases e; exact (nt _ rfl).elim
    · rw [upd_ne z] at e; exact s.good.sub.tup a vs e
  · rcases look h with ⟨_, z⟩ | ⟨_, a⟩
    · cases z
    · exact s.good.fz j e a
  · rcases look h with ⟨rfl, z⟩ | ⟨hj, a⟩
    · cases z; exact ⟨p, h2, np, o⟩
    · obtain ⟨q, e1, n, z⟩ := s.good.ow j e a
      refine ⟨q, e1, n, other (fun z => ?_) z⟩
      subst z
      exact hj (s.good.inj j i e d q a h1 e1 h2)
  · obtain ⟨e1, a1⟩ := own a
    obtain ⟨e2, b1⟩ := own b
    exact s.good.inj j k e1 e2 q a1 b1 c1 c2
  · rcases s.good.sub.rd a w e with z | ⟨o, z⟩
    · exact .inl (by rw [upd_ne (neF a w e)]; exact z)
    · exact .inr ⟨o, by rw [upd_ne (neF a w e)]; exact z⟩
  · by_cases z : a = p
    · subst z; rw [upd_same] at e; cases e; exact (nt _ rfl).elim
    · rw [upd_ne z] at e; exact s.good.sub.tup a vs e
  · rw [upd_ne (ne_of_none e n0)]; exact s.ext.keep a o e
  · obtain ⟨e1, a1⟩ := own a
    exact s.new j e1 q a1 b
/-- an owned slot is frozen -/
@[simp] def frzS (i : Nat) (ρ : Rho) : Rho := match ρ[i]? with
  | some (.ow d) => ρ.set i (.fz d)
  | _ => ρ
theorem Stt.freeze (s : Stt K mg F0 H0 F H ρ σ) (i : Nat) : ∃ F', Stt K mg F0 H0 F' H (frzS i ρ) σ ∧ Step F H F' H := by
  unfold frzS
  split
  · next d h1 =>
    obtain ⟨p, h2, np, o⟩ := s.good.ow i d h1
    have n0 := s.new i d p h1 h2
    obtain ⟨u, hp, r, sb, kp⟩ := o.freeze s.good.sub np
    have hlt : i < ρ.length := (List.getElem?_eq_some_iff.mp h1).1
    have look : ∀ {j : Nat} {t : Sl}, (ρ.set i (.fz d))[j]? = some t → (j = i ∧ t = .fz d) ∨ (j ≠ i ∧ ρ[j]? = some t) := fun {j t} e => by
      by_cases hj : j = i
      · subst hj
        rw [List.getElem?_set_self hlt] at e; cases e; exact .inl ⟨rfl, rfl⟩
      · rw [List.getElem?_set_ne (Ne.symm hj)] at e
        exact .inr ⟨hj, e⟩
    have monoOwn : ∀ {q : Addr} {e : D}, OwnAt K mg F H q e → OwnAt K mg (upd F p u) H q e := fun {q e} h => by
      cases e with
      | lst ds => obtain ⟨vs, a, b⟩ := h; exact ⟨vs, a, b.mono kp⟩
      | dk ks ds => obtain ⟨vs, a, a2, b⟩ := h; exact ⟨vs, a, a2, b.mono kp⟩
      | dt ks ds => obtain ⟨vs, a, a2, b⟩ := h; exact ⟨vs, a, a2, b.mono kp⟩
      | obj c ns ds => obtain ⟨C, dx, fs, g, a, a2, b⟩ := h; exact ⟨C, dx, fs, g, a, a2, b.mono kp⟩
      | _ => exact h.elim
    refine ⟨upd F p u, ⟨⟨sb, by simpa using s.good.len, fun j e h => ?_, fun j e h => ?_, fun j k e e' q a b c1 c2 => ?_⟩, ⟨sb, s.ext.keep, fun a w e => kp a w (s.ext.frz a w e), fun a w e => ?_⟩, fun j e q a b => ?_⟩, fun a w e => ⟨kp a w e, rfl⟩⟩
    · rcases look h with ⟨rfl, z⟩ | ⟨_, a⟩
      · cases z; exact ⟨_, h2, r⟩
      · obtain ⟨v, e1, e2⟩ := s.good.fz j e a
        exact ⟨v, e1, e2.mono kp⟩
    · rcases look h with ⟨rfl, z⟩ | ⟨hj, a⟩
      · cases z
      · obtain ⟨q, e1, n, z⟩ := s.good.ow j e a
        refine ⟨q, e1, ?_, monoOwn z⟩
        rw [upd_ne (fun z => ?_)]
        · exact n
        · subst z; exact hj (s.good.inj j i e d q a h1 e1 h2)
    · rcases look a with ⟨_, z⟩ | ⟨_, a1⟩
      · cases z
      · rcases look b with ⟨_, z⟩ | ⟨_, b1⟩
        · cases z
        · exact s.good.inj j k e e' q a1 b1 c1 c2
    · by_cases z : a = p
      · subst z; exact .inr n0
      · rw [upd_ne z] at e; exact s.ext.new a w e
    · rcases look a with ⟨_, z⟩ | ⟨_, a1⟩
      · cases z
      · exact s.new j e q a1 b
  · exact ⟨F, s, .refl⟩
end

section
variable (K : PySem.W.Frag) (mg : Str → Option Value) (W : WX)
def SPost (F0 H0 F H : Hp) (D : Ends) : Out → Prop
  | .nx ρ => ∀ σ F' H', Step F H F' H' → Stt K mg F0 H0 F' H' ρ σ → D.nx σ H'
  | .bk ρ => ∀ σ F' H', Step F H F' H' → Stt K mg F0 H0 F' H' ρ σ → D.bk σ H'
  | .ct ρ => ∀ σ F' H', Step F H F' H' → Stt K mg F0 H0 F' H' ρ σ → D.ct σ H'
  | .rt s => ∀ v F' H', Step F H F' H' → Ext F0 H0 F' H' → Res K mg H0 F' H' s v → D.rt v H'
  | .ex c ns ds ρ => ∀ cl dx σ F' H', Step F H F' H' → Stt K mg F0 H0 F' H' ρ σ → RepX K mg F' H' c ns ds cl dx → W cl dx σ H'
  | .no => False
def tS (s : Nat → Rho → Out) : TS := fun D σ H => ∃ n F ρ F0 H0, Stt K mg F0 H0 F H ρ σ ∧ SPost K mg W F0 H0 F H D (s n ρ)
end
abbrev MS (X : Cx) (W : WX) (st : Stmt) (s : Nat → Rho → Out) : Prop := PS X st (tS X.K X.mg W s)
abbrev MSs (X : Cx) (W : WX) (st : List Stmt) (s : Nat → Rho → Out) : Prop := PSs X st (tS X.K X.mg W s)
theorem ps_imp {X : Cx} {e : Stmt} {t t' : TS} (h : PS X e t) (i : ∀ D σ H, t' D σ H → t D σ H) : PS X e t' := ⟨fun pins s σ H D I q => h.run pins s σ H D I (i D σ H q)⟩
theorem pss_imp {X : Cx} {e : List Stmt} {t t' : TS} (h : PSs X e t) (i : ∀ D σ H, t' D σ H → t D σ H) : PSs X e t' := ⟨fun pins s σ H D I q => h.run pins s σ H D I (i D σ H q)⟩
theorem SPost.step {K : PySem.W.Frag} {mg : Str → Option Value} {W : WX} {F0 H0 F H F1 H1 : Hp} {D : Ends} (x : Step F H F1 H1) : ∀ {o : Out}, SPost K mg W F0 H0 F H D o → SPost K mg W F0 H0 F1 H1 D o
  | .nx ρ, h => fun σ F' H' s g => h σ F' H' (x.trans s) g
  | .bk ρ, h => fun σ F' H' s g => h σ F' H' (x.trans s) g
  | .ct ρ, h => fun σ F' H' s g => h σ F' H' (x.trans s) g
  | .rt s, h => fun v F' H' s g r => h v F' H' (x.trans s) g r
  | .ex c ns ds ρ, h => fun cl dx σ F' H' s g r => h cl dx σ F' H' (x.trans s) g r
  | .no, h => h

/-! ### the meanings -/
abbrev Sem := Nat → Rho → Out
def rOut {α : Type} (ρ : Rho) (r : R α) (k : α → Out) : Out := match r with
  | .ok a => k a
  | .ex c ns ds => .ex c ns ds ρ
  | .no => .no
@[simp] theorem rOut_ok {α : Type} {ρ : Rho} {a : α} {k : α → Out} : rOut ρ (.ok a) k = k a := rfl
@[simp] theorem rOut_ex {α : Type} {ρ : Rho} {c ns ds} {k : α → Out} : rOut ρ (.ex c ns ds) k = .ex c ns ds ρ := rfl
@[simp] theorem rOut_no {α : Type} {ρ : Rho} {k : α → Out} : rOut ρ .no k = .no := rfl
def oSeq (o : Out) (k : Rho → Out) : Out := match o with
  | .nx ρ => k ρ
  | o => o
@[simp] theorem oSeq_nx {ρ : Rho} {k : Rho → Out} : oSeq (.nx ρ) k = k ρ := rfl
@[simp] theorem oSeq_rt {s : Sl} {k : Rho → Out} : oSeq (.rt s) k = .rt s := rfl
@[simp] theorem oSeq_ex {c ns ds} {ρ : Rho} {k : Rho → Out} : oSeq (.ex c ns ds ρ) k = .ex c ns ds ρ := rfl
@[simp] theorem oSeq_bk {ρ : Rho} {k : Rho → Out} : oSeq (.bk ρ) k = .bk ρ := rfl
@[simp] theorem oSeq_ct {ρ : Rho} {k : Rho → Out} : oSeq (.ct ρ) k = .ct ρ := rfl
@[simp] theorem oSeq_no {k : Rho → Out} : oSeq .no k = .no := rfl
@[simp] def sNil : Sem := fun _ ρ => .nx ρ
@[simp] def sSeq (s t : Sem) : Sem := fun n ρ => oSeq (s n ρ) (t n)
@[simp] def sFrz (i : Nat) (s : Sem) : Sem := fun n ρ => s n (frzS i ρ)
@[simp] def frzL : Sl → Sl
  | .ow d => .fz d
  | s => s
@[simp] def sSet (i : Nat) (f : Rho → R Sl) : Sem := fun _ ρ => rOut ρ (f ρ) fun s => .nx (ρ.set i (frzL s))
@[simp] def sOwn (i : Nat) (f : Rho → R Sl) : Sem := fun _ ρ => rOut ρ (f ρ) fun s => .nx (ρ.set i s)
@[simp] def sRet (f : Rho → R Sl) : Sem := fun _ ρ => rOut ρ (f ρ) .rt
@[simp] def sRetV (i : Nat) : Sem := fun _ ρ => match ρ[i]? with
  | some (.fz d) => .rt (.fz d)
  | some (.ow d) => .rt (.ow d)
  | _ => .no
@[simp] def sRetN : Sem := fun _ _ => .rt (.fz .non)
@[simp] def sDrop (f : Rho → R Sl) : Sem := fun _ ρ => rOut ρ (f ρ) fun _ => .nx ρ
@[simp] def sBrk : Sem := fun _ ρ => .bk ρ
@[simp] def sCnt : Sem := fun _ ρ => .ct ρ
@[simp] def sIf (c : Rho → R Bool) (s t : Sem) : Sem := fun n ρ => rOut ρ (c ρ) fun b => if b then s n ρ else t n ρ
def oLoop (o : Out) (k : Rho → Out) : Out := match o with
  | .nx ρ => k ρ
  | .ct ρ => k ρ
  | .bk ρ => .nx ρ
  | o => o
@[simp] theorem oLoop_nx {ρ : Rho} {k : Rho → Out} : oLoop (.nx ρ) k = k ρ := rfl
@[simp] theorem oLoop_ct {ρ : Rho} {k : Rho → Out} : oLoop (.ct ρ) k = k ρ := rfl
@[simp] theorem oLoop_bk {ρ : Rho} {k : Rho → Out} : oLoop (.bk ρ) k = .nx ρ := rfl
@[simp] theorem oLoop_rt {s : Sl} {k : Rho → Out} : oLoop (.rt s) k = .rt s := rfl
@[simp] theorem oLoop_ex {c ns ds} {ρ : Rho} {k : Rho → Out} : oLoop (.ex c ns ds ρ) k = .ex c ns ds ρ := rfl
@[simp] theorem oLoop_no {k : Rho → Out} : oLoop .no k = .no := rfl
def sWhile (c : Rho → R Bool) (b : Sem) : Sem
  | 0, _ => .no
  | n + 1, ρ => rOut ρ (c ρ) fun k => if k then oLoop (b n ρ) (sWhile c b n) else .nx ρ
def sLoop (g : D → Rho → R Rho) (b : Sem) (n : Nat) : List D → Rho → Out
  | [], ρ => .nx ρ
  | d :: ds, ρ => rOut ρ (g d ρ) fun ρ1 => oLoop (b n ρ1) (sLoop g b n ds)
@[simp] def sFor (it : Rho → R (List D)) (g : D → Rho → R Rho) (b : Sem) : Sem := fun n ρ => rOut ρ (it ρ) fun ds => sLoop g b n ds ρ
@[simp] def gN (i : Nat) : D → Rho → R Rho := fun d ρ => .ok (ρ.set i (.fz d))
@[simp] def sApp (i : Nat) (f : Rho → R Sl) : Sem := fun _ ρ => match ρ[i]? with
  | some (.ow (.lst ds)) => rOut ρ (toV f ρ) fun d => if ds.length < sizeLine then .nx (ρ.set i (.ow (.lst (ds ++ [d])))) else .no
  | _ => .no

section
variable {X : Cx} {W : WX} {st : Stmt} {sts : List Stmt} {s t : Sem} {e : Expr} {m : Rho → R Sl} {f : Rho → R D} {c : Rho → R Bool} {pos : Pos}
theorem mss_nil : MSs X W [] sNil := pss_imp pss_nil fun D σ H ⟨n, F, ρ, F0, H0, g, q⟩ => q σ F H .refl g
theorem mss_one (h : MS X W st s) : MSs X W [st] s := pss_one h
theorem mss_cons (h1 : MS X W st s) (h2 : MSs X W sts t) : MSs X W (st :: sts) (sSeq s t) := by
  refine pss_imp (pss_cons h1 h2) fun D σ H ⟨n, F, ρ, F0, H0, g, q⟩ => ?_
  refine ⟨n, F, ρ, F0, H0, g, ?_⟩
  unfold sSeq at q
  cases e : s n ρ with
  | nx ρ' => rw [e] at q; exact fun σ' F' H' x g' => ⟨n, F', ρ', F0, H0, g', q.step x⟩
  | bk ρ' => rw [e] at q; exact q
  | ct ρ' => rw [e] at q; exact q
  | rt v => rw [e] at q; exact q
  | ex c ns ds ρ' => rw [e] at q; exact q
  | no => rw [e] at q; exact q
theorem mss_frz (i : Nat) (h : MSs X W sts s) : MSs X W sts (sFrz i s) := by
  refine pss_imp h fun D σ H ⟨n, F, ρ, F0, H0, g, q⟩ => ?_
  obtain ⟨F', g', x⟩ := g.freeze i
  exact ⟨n, F', _, F0, H0, g', q.step x⟩
/-- an expression ahead of a statement's end -/
theorem tM_out {K : PySem.W.Frag} {mg : Str → Option Value} {F0 H0 F H : Hp} {ρ : Rho} {σ : SS} {D : Ends} {k : Sl → Out} {Q : VK} (g : Stt K mg F0 H0 F H ρ σ) (q : SPost K mg W F0 H0 F H D (rOut ρ (m ρ) k))
    (h : ∀ s v F' H', m ρ = .ok s → Ext F H F' H' → Stt K mg F0 H0 F' H' ρ σ → Res K mg H F' H' s v → SPost K mg W F0 H0 F' H' D (k s) → Q v H') : tM K mg W m σ H Q := by
  refine ⟨F, ρ, g.good, ?_⟩
  cases e : m ρ with
  | ok s =>
    rw [e] at q
    exact fun v F' H' x r => h s v F' H' e x (g.grow x) r (q.step (x.step g.good.sub))
  | ex c ns ds =>
    rw [e] at q
    exact fun cl dx F' H' x r => q cl dx σ F' H' (x.step g.good.sub) (g.grow x) r
  | no => rw [e] at q; exact q
theorem tV_out {K : PySem.W.Frag} {mg : Str → Option Value} {F0 H0 F H : Hp} {ρ : Rho} {σ : SS} {D : Ends} {k : Mp.D → Out} {Q : VK} (g : Stt K mg F0 H0 F H ρ σ) (q : SPost K mg W F0 H0 F H D (rOut ρ (f ρ) k))
    (h : ∀ s v F' H', f ρ = .ok s → Ext F H F' H' → Stt K mg F0 H0 F' H' ρ σ → Held K mg F' H' s v → SPost K mg W F0 H0 F' H' D (k s) → Q v H') : tV K mg W f σ H Q := by
  refine ⟨F, ρ, g.good, ?_⟩
  cases e : f ρ with
  | ok s =>
    rw [e] at q
    exact fun v F' H' x r => h s v F' H' e x (g.grow x) r (q.step (x.step g.good.sub))
  | ex c ns ds =>
    rw [e] at q
    exact fun cl dx F' H' x r => q cl dx σ F' H' (x.step g.good.sub) (g.grow x) r
  | no => rw [e] at q; exact q
theorem tT_out {K : PySem.W.Frag} {mg : Str → Option Value} {F0 H0 F H : Hp} {ρ : Rho} {σ : SS} {D : Ends} {k : Bool → Out} {Q : Bool → Hp → Prop} (g : Stt K mg F0 H0 F H ρ σ) (q : SPost K mg W F0 H0 F H D (rOut ρ (c ρ) k))
    (h : ∀ b F' H', c ρ = .ok b → Ext F H F' H' → Stt K mg F0 H0 F' H' ρ σ → SPost K mg W F0 H0 F' H' D (k b) → Q b H') : tT K mg W c σ H Q := by
  refine ⟨F, ρ, g.good, ?_⟩
  cases e : c ρ with
  | ok s =>
    rw [e] at q
    exact fun F' H' x => h s F' H' e x (g.grow x) (q.step (x.step g.good.sub))
  | ex c ns ds =>
    rw [e] at q
    exact fun cl dx F' H' x r => q cl dx σ F' H' (x.step g.good.sub) (g.grow x) r
  | no => rw [e] at q; exact q
theorem res_ext0 {K : PySem.W.Frag} {mg : Str → Option Value} {H0 H F' H' : Hp} {s : Sl} {v : V} (h : ∀ p, H p = none → H0 p = none) : Res K mg H F' H' s v → Res K mg H0 F' H' s v := by
  cases s with
  | fz d => exact fun r => r
  | un => exact fun r => r
  | ow d => exact fun ⟨p, e, n, m, o⟩ => ⟨p, e, h p n, m, o⟩
/-- a result is stored, new or frozen -/
theorem Stt.store {K : PySem.W.Frag} {mg : Str → Option Value} {F0 H0 F H F' H' : Hp} {ρ : Rho} {σ : SS} {s : Sl} {v : V} (g0 : Stt K mg F0 H0 F H ρ σ) (x : Ext F H F' H') (r : Res K mg H F' H' s v) (i : Nat) : Stt K mg F0 H0 F' H' (ρ.set i s) (σ.set i (some v)) := by
  cases s with
  | fz d => exact (g0.grow x).setFz i r
  | un => exact r.elim
  | ow d =>
    obtain ⟨p, e, n, m, o⟩ := r
    subst e
    refine (g0.grow x).setOw i (g0.ext.none n) m o fun j e q h1 h2 z => ?_
    subst z
    obtain ⟨p', h3, _, o'⟩ := g0.good.ow j e h1
    rw [h2] at h3; cases h3
    obtain ⟨u, hu⟩ := o'.there
    rw [n] at hu; cases hu
theorem ms_own (i : Nat) {x : Str} {pos' : Pos} (hN : X.N.Nodup) (he : ME X W e m) (hi : X.N[i]? = some x := by rfl) (hx : Loc X.env.scope x := by first | exact .inl rfl | exact .inr rfl) (hs : swapsWith e (some (.Name x pos')) pos.line X.env = pure false := by rfl) (hf : X.fn x = true ∨ X.env.scope.names.lookup x = some .local := by first | exact .inl rfl | exact .inr rfl | assumption) :
    MS X W (.Assign [.Name x pos'] e pos) (sOwn i m) := by
  refine ps_imp (ps_set hN hi hx he hs hf) fun D σ H ⟨n, F, ρ, F0, H0, g, q⟩ => ?_
  refine tM_out g q fun s v F' H' _ xx g' r z => ?_
  exact z _ F' H' .refl (g.store xx r i)
theorem freeze_any {K : PySem.W.Frag} {mg : Str → Option Value} {F H F' H' : Hp} {s : Sl} {v : V} (x : Ext F H F' H') (r : Res K mg H F' H' s v) : ∃ F2, Ext F H F2 H' ∧ Res K mg H F2 H' (frzL s) v ∧ Step F' H' F2 H' := by
  cases s with
  | fz d => exact ⟨F', x, r, .refl⟩
  | un => exact r.elim
  | ow d =>
    obtain ⟨p, e, n, m, o⟩ := r
    obtain ⟨u, h1, h2, h3, h4⟩ := o.freeze x.sub m
    refine ⟨upd F' p u, ⟨h3, x.keep, fun a w q => h4 a w (x.frz a w q), fun a w q => ?_⟩, e ▸ h2, fun a w q => ⟨h4 a w q, rfl⟩⟩
    by_cases z : a = p
    · subst z; exact .inr n
    · rw [upd_ne z] at q; exact x.new a w q
theorem ms_set (i : Nat) {x : Str} {pos' : Pos} (hN : X.N.Nodup) (he : ME X W e m) (hi : X.N[i]? = some x := by rfl) (hx : Loc X.env.scope x := by first | exact .inl rfl | exact .inr rfl) (hs : swapsWith e (some (.Name x pos')) pos.line X.env = pure false := by rfl) (hf : X.fn x = true ∨ X.env.scope.names.lookup x = some .local := by first | exact .inl rfl | exact .inr rfl | assumption) :
    MS X W (.Assign [.Name x pos'] e pos) (sSet i m) := by
  refine ps_imp (ps_set hN hi hx he hs hf) fun D σ H ⟨n, F, ρ, F0, H0, g, q⟩ => ?_
  refine tM_out g q fun s v F' H' _ xx g' r z => ?_
  obtain ⟨F2, x2, r2, st⟩ := freeze_any xx r
  exact z _ F2 H' st (g.store x2 r2 i)
theorem ms_ret (he : ME X W e m) : MS X W (.Return (some e) pos) (sRet m) := by
  refine ps_imp (ps_ret he) fun D σ H ⟨n, F, ρ, F0, H0, g, q⟩ => ?_
  refine tM_out g q fun s v F' H' _ xx g' r z => ?_
  exact z v F' H' .refl g'.ext (res_ext0 (fun p h => g.ext.none h) r)
theorem ms_retN : MS X W (.Return none pos) sRetN := ps_imp ps_retN fun D σ H ⟨n, F, ρ, F0, H0, g, q⟩ => q .non F H .refl g.ext (show Rep X.K X.mg F .non .non from rep_non.mpr rfl)
theorem ms_retV (i : Nat) {x : Str} {pos' : Pos} (hN : X.N[i]? = some x := by rfl) (hv : Vis X.env.scope x := by first | exact Or.inl rfl | exact Or.inr (Or.inl rfl) | exact Or.inr (Or.inr rfl)) (hd : (x == ("__debug__" : Str)) = false := by decide)
    (hcd : (x == ("__classdict__" : Str)) = false := by decide) : MS X W (.Return (some (.Name x pos')) pos) (sRetV i) := by
  refine ps_imp (ps_ret (pe_var hN hv hd hcd)) fun D σ H ⟨n, F, ρ, F0, H0, g, q⟩ => ?_
  unfold sRetV at q
  split at q
  · next d e =>
    obtain ⟨v, h1, h2⟩ := g.good.fz i d e
    exact ⟨v, h1, q v F H .refl g.ext h2⟩
  · next d e =>
    obtain ⟨p, h1, h2, h3⟩ := g.good.ow i d e
    exact ⟨_, h1, q _ F H .refl g.ext ⟨p, rfl, g.new i d p e h1, h2, h3⟩⟩
  · exact q.elim
theorem ms_drop (he : ME X W e m) (hs : swapsWith e none pos.line X.env = pure false := by rfl) : MS X W (.Expr e pos) (sDrop m) := by
  refine ps_imp (ps_expr he hs) fun D σ H ⟨n, F, ρ, F0, H0, g, q⟩ => ?_
  refine tM_out g q fun s v F' H' _ xx g' r z => ?_
  exact z σ F' H' .refl g'
theorem ms_brk : MS X W (.Break pos) sBrk := ps_imp ps_break fun D σ H ⟨n, F, ρ, F0, H0, g, q⟩ => q σ F H .refl g
theorem ms_cnt : MS X W (.Continue pos) sCnt := ps_imp ps_continue fun D σ H ⟨n, F, ρ, F0, H0, g, q⟩ => q σ F H .refl g
theorem ms_pass : MS X W (.Pass pos) sNil := ps_imp ps_pass fun D σ H ⟨n, F, ρ, F0, H0, g, q⟩ => q σ F H .refl g
theorem ms_doc {x j pos'} : MS X W (.Expr (.Constant (.str x) j pos) pos') sNil := ps_imp ps_doc fun D σ H ⟨n, F, ρ, F0, H0, g, q⟩ => q σ F H .refl g
theorem ms_if {ce : Expr} {a b : List Stmt} (hc : MT X W ce c) (ha : MSs X W a s) (hb : MSs X W b t) : MS X W (.If ce a b pos) (sIf c s t) := by
  refine ps_imp (ps_if hc ha hb) fun D σ H ⟨n, F, ρ, F0, H0, g, q⟩ => ?_
  refine tT_out g q fun b F' H' _ x g' z => ?_
  cases b with
  | true => rw [if_pos rfl]; exact ⟨n, F', ρ, F0, H0, g', z⟩
  | false => rw [if_neg Bool.false_ne_true]; exact ⟨n, F', ρ, F0, H0, g', z⟩
theorem ms_while {ce : Expr} {b : List Stmt} (hp : PassesOwn (model X.prog X.w) X.A X.env X.xe) (hc : MT X W ce c) (hb : MSs X W b s) : MS X W (.While ce b [] pos) (sWhile c s) := by
  refine ps_imp (ps_while hp hc hb) fun D σ H ⟨n, F, ρ, F0, H0, g, q⟩ => ?_
  refine ⟨fun m σ1 H1 => ∃ F1 ρ1, Stt X.K X.mg F0 H0 F1 H1 ρ1 σ1 ∧ SPost X.K X.mg W F0 H0 F1 H1 D (sWhile c s m ρ1), ⟨n, F, ρ, g, q⟩, ?_⟩
  rintro m σ1 H1 ⟨F1, ρ1, g1, q1⟩
  cases m with
  | zero => exact q1.elim
  | succ m =>
    refine tT_out (k := fun k => if k then oLoop (s m ρ1) (sWhile c s m) else .nx ρ1) g1 q1 fun b F' H' _ x g' z => ?_
    cases b with
    | false => rw [if_neg Bool.false_ne_true]; exact z σ1 F' H' .refl g'
    | true =>
      rw [if_pos rfl]
      have z : SPost X.K X.mg W F0 H0 F' H' D (oLoop (s m ρ1) (sWhile c s m)) := z
      refine ⟨fun σ2 H2 => ∃ F2 ρ2, Stt X.K X.mg F0 H0 F2 H2 ρ2 σ2 ∧ SPost X.K X.mg W F0 H0 F2 H2 D (sWhile c s m ρ2), fun σ2 H2 h => ⟨m, Nat.lt_succ_self m, h⟩, ?_⟩
      refine ⟨m, F', ρ1, F0, H0, g', ?_⟩
      cases e : s m ρ1 with
      | nx ρ' => rw [e] at z; exact fun σ2 F2 H2 x2 g2 => ⟨F2, ρ', g2, z.step x2⟩
      | ct ρ' => rw [e] at z; exact fun σ2 F2 H2 x2 g2 => ⟨F2, ρ', g2, z.step x2⟩
      | bk ρ' => rw [e] at z; exact z
      | rt v => rw [e] at z; exact z
      | ex c ns ds ρ' => rw [e] at z; exact z
      | no => rw [e] at z; exact z
end

/-! ### what a loop walks -/
/-- the walk J hands out the frozen values ds, while what was frozen stands -/
def Gives (K : PySem.W.Frag) (mg : Str → Option Value) (J : It) (F H : Hp) (ds : List D) : Prop :=
  ∀ F1 H1, Sub F1 H1 → Step F H F1 H1 → ∀ i, (i < ds.length → J.go i H1 ∧ ∀ x H', J.yld i H1 x H' → ∃ F' d, ds[i]? = some d ∧ Ext F1 H1 F' H' ∧ Rep K mg F' d x) ∧ (ds.length ≤ i → J.stop i H1)
def tI (K : PySem.W.Frag) (mg : Str → Option Value) (W : WX) (f : Rho → R (List D)) : TI := fun σ H Q => ∃ F ρ, GoodM K mg F H ρ σ ∧ match f ρ with
  | .ok ds => ∀ J F' H', Ext F H F' H' → Gives K mg J F' H' ds → Q J H'
  | .ex c ns ds => XPost K mg W F H σ c ns ds
  | .no => False
abbrev MI (X : Cx) (W : WX) (tg it : Expr) (f : Rho → R (List D)) : Prop := PI X tg it (tI X.K X.mg W f)
theorem pi_imp {X : Cx} {tg it : Expr} {t t' : TI} (h : PI X tg it t) (i : ∀ σ H Q, t' σ H Q → t σ H Q) : PI X tg it t' := ⟨fun pins s σ H Q I q => h.run pins s σ H Q I (i σ H Q q)⟩
/-- targets; ws: the slots that are stored -/
def tG (K : PySem.W.Frag) (mg : Str → Option Value) (ws : List Nat) (g : D → Rho → R Rho) : TG := fun v σ H Q => ∃ F ρ d F0 H0, Stt K mg F0 H0 F H ρ σ ∧ Rep K mg F d v ∧ match g d ρ with
  | .ok ρ' => ∀ σ', Stt K mg F0 H0 F H ρ' σ' → (∀ vs : List Nat, (∀ i ∈ ws, i ∈ vs) → wipe σ' vs = wipe σ vs) → Q σ' H
  | _ => False
theorem set_none_set (σ : SS) (i j : Nat) (x : Option V) (h : j ≠ i) : (σ.set i x).set j none = (σ.set j none).set i x := List.set_comm _ _ (Ne.symm h)
theorem wipe_set {i : Nat} {x : Option V} : ∀ (vs : List Nat) (σ : SS), i ∈ vs → wipe (σ.set i x) vs = wipe σ vs
  | v :: vs, σ, h => by
    unfold wipe
    by_cases e : i = v
    · subst e
      by_cases h2 : i ∈ vs
      · rw [wipe_set vs σ h2]
      · have : ∀ (vs : List Nat) (σ : SS), i ∉ vs → wipe (σ.set i x) vs = (wipe σ vs).set i x := by
          intro vs
          induction vs with
          | nil => intro σ _; rfl
          | cons w ws ih =>
            intro σ hn
            unfold wipe
            rw [ih σ (fun z => hn (List.mem_cons_of_mem _ z)), List.set_comm _ _ (fun z => hn (by rw [z]; exact List.mem_cons_self))]
        rw [this vs σ h2, List.set_set]
    · rw [wipe_set vs σ ((List.mem_cons.mp h).resolve_left e)]
abbrev MG (X : Cx) (tg : Expr) (ws : List Nat) (g : D → Rho → R Rho) : Prop := PG X tg (tG X.K X.mg ws g)
theorem pg_imp {X : Cx} {tg : Expr} {t t' : TG} (h : PG X tg t) (i : ∀ v σ H Q, t' v σ H Q → t v σ H Q) : PG X tg t' := ⟨fun pins s σ H v u Q I r q => h.run pins s σ H v u Q I r (i v σ H Q q)⟩
section
variable {X : Cx} {W : WX} {s : Sem} {e tg it : Expr} {f : Rho → R (List D)} {g : D → Rho → R Rho} {pos : Pos}
theorem mg_name (i : Nat) {x : Str} {pos : Pos} (hN : X.N.Nodup) (hi : X.N[i]? = some x := by rfl) (hx : Loc X.env.scope x := by first | exact .inl rfl | exact .inr rfl) (hf : X.fn x = true ∨ X.env.scope.names.lookup x = some .local := by first | exact .inl rfl | exact .inr rfl | assumption) : MG X (.Name x pos) [i] (gN i) :=
  pg_imp (pg_name hN hi hx hf) fun v σ H Q ⟨F, ρ, d, F0, H0, st, r, q⟩ => q _ (st.setFz i r) fun vs h => wipe_set vs σ (h i (List.mem_singleton.mpr rfl))
theorem ms_for {body : List Stmt} (hp : PassesOwn (model X.prog X.w) X.A X.env X.xe) (hc : X.calm = true) (hi : MI X W tg it f) {ws : List Nat} (hg : MG X tg ws g) (hgn : ∀ d ρ, NoEx (g d ρ)) (hb : MSs X W body s)
    (hs : ∀ x, foldedSetIterable it X.env x = pure x := by intro _; rfl) : MS X W (.For tg it body [] pos) (sFor f g s) := by
  refine ps_imp (ps_for hp hc hi hg hb hs) fun D σ H ⟨n, F, ρ, F0, H0, st, q⟩ => ?_
  refine ⟨F, ρ, st.good, ?_⟩
  unfold sFor at q
  cases e : f ρ with
  | ex c ns ds => rw [e] at q; exact fun cl dx F' H' x r => q cl dx σ F' H' (x.step st.good.sub) (st.grow x) r
  | no => rw [e] at q; exact q
  | ok ds =>
    rw [e] at q
    intro J F1 H1 x gv
    have q : SPost X.K X.mg W F0 H0 F H D (sLoop g s n ds ρ) := q
    have st1 := st.grow x
    have q1 := q.step (x.step st.good.sub)
    refine ⟨fun i m σ2 H2 => m = ds.length - i ∧ i ≤ ds.length ∧ ∃ F2 ρ2, Step F1 H1 F2 H2 ∧ Stt X.K X.mg F0 H0 F2 H2 ρ2 σ2 ∧ SPost X.K X.mg W F0 H0 F2 H2 D (sLoop g s n (ds.drop i) ρ2),
      ⟨ds.length, rfl, Nat.zero_le _, F1, ρ, .refl, st1, by rw [List.drop_zero]; exact q1⟩, ?_⟩
    rintro i m σ2 H2 ⟨rfl, hi2, F2, ρ2, sp2, st2, q2⟩
    by_cases hlt : i < ds.length
    · right
      obtain ⟨⟨go, yl⟩, _⟩ : (J.go i H2 ∧ ∀ x H', J.yld i H2 x H' → ∃ F' d, ds[i]? = some d ∧ Ext F2 H2 F' H' ∧ Rep X.K X.mg F' d x) ∧ True := ⟨(gv F2 H2 st2.good.sub sp2 i).1 hlt, trivial⟩
      refine ⟨go, fun σ3 H3 => i + 1 ≤ ds.length ∧ ∃ F3 ρ3, Step F1 H1 F3 H3 ∧ Stt X.K X.mg F0 H0 F3 H3 ρ3 σ3 ∧ SPost X.K X.mg W F0 H0 F3 H3 D (sLoop g s n (ds.drop (i + 1)) ρ3), fun σ3 H3 h => ⟨ds.length - (i + 1), by omega, rfl, h⟩, fun xv H3 hy => ?_⟩
      obtain ⟨F3, d, hd, x3, r3⟩ := yl xv H3 hy
      have st3 := st2.grow x3
      have q3 := q2.step (x3.step st2.good.sub)
      have ed : ds.drop i = d :: ds.drop (i + 1) := by
        rw [List.drop_eq_getElem_cons hlt]
        have : ds[i] = d := by rw [List.getElem?_eq_getElem hlt] at hd; exact Option.some.inj hd
        rw [this]
      rw [ed] at q3
      unfold sLoop at q3
      refine ⟨F3, ρ2, d, F0, H0, st3, r3, ?_⟩
      cases e2 : g d ρ2 with
      | ex c ns ds => exact (hgn d ρ2 c ns ds e2).elim
      | no => rw [e2] at q3; exact q3
      | ok ρ3 =>
        rw [e2] at q3
        intro σ3 st4 _
        have q3 : SPost X.K X.mg W F0 H0 F3 H3 D (oLoop (s n ρ3) (sLoop g s n (ds.drop (i + 1)))) := q3
        refine ⟨n, F3, ρ3, F0, H0, st4, ?_⟩
        have sp3 := sp2.trans (x3.step st2.good.sub)
        cases e3 : s n ρ3 with
        | nx ρ' => rw [e3] at q3; exact fun σ4 F4 H4 x4 st5 => ⟨hlt, F4, ρ', sp3.trans x4, st5, q3.step x4⟩
        | ct ρ' => rw [e3] at q3; exact fun σ4 F4 H4 x4 st5 => ⟨hlt, F4, ρ', sp3.trans x4, st5, q3.step x4⟩
        | bk ρ' => rw [e3] at q3; exact q3
        | rt v => rw [e3] at q3; exact q3
        | ex c ns ds ρ' => rw [e3] at q3; exact q3
        | no => rw [e3] at q3; exact q3
    · left
      have ei : i = ds.length := by omega
      subst ei
      refine ⟨(gv F2 H2 st2.good.sub sp2 _).2 (Nat.le_refl _), ?_⟩
      rw [List.drop_length] at q2
      exact q2 σ2 F2 H2 .refl st2
end
end Mp

namespace Mp
open PySem PySem.Spec PyProof.Rows L2

/-! ### defs -/
def SpM (K : PySem.W.Frag) (mg : Str → Option Value) (np : Nat) (mir : List D → R Sl) : Sp := fun vs H Q E => ∃ F ds, Sub F H ∧ Reps K mg F ds vs ∧ ds.length = np ∧
  match mir ds with
  | .ok s => ∀ v F' H', Ext F H F' H' → Res K mg H F' H' s v → Q v H'
  | .ex c ns es => ∀ cl dx F' H', Ext F H F' H' → RepX K mg F' H' c ns es cl dx → E cl dx H'
  | .no => False
/-- the module's def x is known: called with np arguments it does what mir does; k: its level -/
structure FnM (P : Program) (w : World) (K : PySem.W.Frag) (mg : Str → Option Value) (base : Heap) (x : Str) (k np : Nat) (mir : List D → R Sl) : Prop where
  ex : ∃ (f : Addr) (fd : FuncData) (ps : List Str), FnOk P w K mg base (L2.CX P w) k f fd ps (SpM K mg np mir) ∧ mg x = some (.ref f) ∧ PySem.W.keepIn K (.ref f) = true ∧ Binds K fd ps []
@[simp] def callF (mir : List D → R Sl) (fs : Rho → R (List D)) : Rho → R Sl := fun ρ => (fs ρ).bind mir
section
variable {X : Cx} {W : WX} {e : Expr} {es : List Expr} {fs : Rho → R (List D)} {k np : Nat} {mir : List D → R Sl} {x : Str} {p pos : Pos}
theorem me_call (G : FnM X.prog X.w X.K X.mg X.base x k np mir) (tk : Takes X W) (hr : Room k X.A) (ha : MA X W (e :: es) fs) (hnp : (e :: es).length = np := by rfl) (hlen : ∀ ρ ds, fs ρ = .ok ds → ds.length = np) (hg : Gl X x := by rfl)
    (hdb : (x == ("__debug__" : Str)) = false := by decide) (he : starEach (e :: es) X.env = (false, eval e X.env) :: starEach es X.env := by rfl) (hpl : (backTo pos (starEach es X.env)).any (·.1) = false := by rfl) :
    ME X W (.Call (.Name x p) (e :: es) [] pos) (callF mir fs) := by
  obtain ⟨f, fd, ps, F, hm, hk, hb⟩ := G.ex
  refine pe_imp (pe_callS F hr hg hm hk hb (fun σ => passAt tk σ) ha hdb he hpl) fun σ H Q ⟨Fz, ρ, g, q⟩ => ?_
  refine ⟨Fz, ρ, g, ?_⟩
  unfold callF at q
  cases e1 : fs ρ with
  | ex c ns ds => rw [e1] at q; exact q
  | no => rw [e1] at q; exact q
  | ok ds =>
    rw [e1] at q
    intro vs F1 H1 x1 r1
    refine ⟨F1, ds, x1.sub, r1, hlen ρ ds e1, ?_⟩
    have q : EPost X.K X.mg W Fz H σ Q (mir ds) := q
    cases e2 : mir ds with
    | ex c ns es => rw [e2] at q; exact fun cl dx F' H' x' r => q cl dx F' H' (x1.trans x') r
    | no => rw [e2] at q; exact q
    | ok s => rw [e2] at q; exact fun v F' H' x' r => q v F' H' (x1.trans x') (res_ext0 (fun p h => x1.none h) r)
end
def startR (N : List Str) (ds : List D) : Rho := ds.map .fz ++ List.replicate (N.length - ds.length) .un
def outR : Out → R Sl
  | .rt s => .ok s
  | .nx _ => .ok (.fz .non)
  | .ex c ns ds _ => .ex c ns ds
  | _ => .no
/-- what a def makes of its arguments, by its body -/
def RunsTo (s : Sem) (N : List Str) (ds : List D) (r : R Sl) : Prop := ∃ n, outR (s n (startR N ds)) = r
theorem start_good {K : PySem.W.Frag} {mg : Str → Option Value} {F H : Hp} {N : List Str} {ds : List D} {vs : List V} (sb : Sub F H) (r : Reps K mg F ds vs) : Stt K mg F H F H (startR N ds) (L2.start N vs) := by
  have hl := r.length
  have look : ∀ {i : Nat} {t : Sl}, (startR N ds)[i]? = some t → t = .un ∨ ∃ d, t = .fz d ∧ ds[i]? = some d := fun {i t} e => by
    unfold startR at e
    by_cases hi : i < ds.length
    · rw [List.getElem?_append_left (by simpa using hi), List.getElem?_map, List.getElem?_eq_getElem hi] at e
      cases e
      exact .inr ⟨_, rfl, List.getElem?_eq_getElem hi⟩
    · rw [List.getElem?_append_right (by simpa using hi), List.getElem?_replicate] at e
      split at e
      · cases e; exact .inl rfl
      · cases e
  refine ⟨⟨sb, ?_, fun i d e => ?_, fun i d e => ?_, fun i j d e p a b _ _ => ?_⟩, .refl sb, fun i d p a _ => ?_⟩
  · unfold startR L2.start
    simp only [List.length_append, List.length_map, List.length_replicate, hl]
  · rcases look e with z | ⟨d', z, q⟩
    · cases z
    · cases z
      obtain ⟨v, h1, h2⟩ := r.get q
      refine ⟨v, ?_, h2⟩
      have hi : i < vs.length := (List.getElem?_eq_some_iff.mp h1).1
      unfold L2.start
      rw [List.getElem?_append_left (by simpa using hi), List.getElem?_map, h1]
      rfl
  · rcases look e with z | ⟨d', z, _⟩ <;> cases z
  · rcases look a with z | ⟨d', z, _⟩ <;> cases z
  · rcases look a with z | ⟨d', z, _⟩ <;> cases z
section
variable {P : Program} {w : World} {K : PySem.W.Frag} {mg : Str → Option Value} {base : Heap}
/-- THE RULE for a def: its body's meaning s, and the function mir that s runs to -/
theorem fnok_of {x qual : Str} {st : Stmt} {f : Addr} {fd : FuncData} {N ps : List Str} {k np : Nat} {mir : List D → R Sl} {s : Sem} (F : Fun K x qual st f fd) (S : FnScope N ps (defScope st)) (hnp : np = ps.length)
    (hb : ∀ (cdv : Value) (A : Around) (outer : List Env) (s0 : Shared) (H : Hp) (E : XK), Room k (A.deeper (envOfC qual (defScope st) s0.heap.objs.size f cdv)) →
      MSs (cxOf (L2.CX P w) P w K mg base N qual (defScope st) f cdv A outer s0 H E) (fun cls d _ H => E cls d H) (defBody st) s)
    (hm : ∀ ds, ds.length = np → mir ds = .no ∨ RunsTo s N ds (mir ds)) : FnOk P w K mg base (L2.CX P w) (k + 1) f fd ps (SpM K mg np mir) := by
  refine F.okX S (fun vs H Q E h => ?_) (fun cdv A outer s0 H vs Q E hr h => ?_)
  · obtain ⟨Fz, ds, sb, r, hl, _⟩ := h
    rw [r.length, hl, hnp]
  · obtain ⟨Fz, ds, sb, r, hl, q⟩ := h
    refine ⟨_, hb cdv A outer s0 H E hr, ?_⟩
    rcases hm ds hl with e | ⟨n, e⟩
    · rw [e] at q; exact q.elim
    · refine ⟨n, Fz, startR N ds, Fz, H, start_good sb r, ?_⟩
      cases e2 : s n (startR N ds) with
      | nx ρ => rw [e2] at e; rw [← e] at q; exact fun σ' F' H' _ st => q .non F' H' st.ext (show Rep K mg F' .non .non from rep_non.mpr rfl)
      | rt v => rw [e2] at e; rw [← e] at q; exact fun v F' H' _ x r => q v F' H' x r
      | ex c ns ds ρ => rw [e2] at e; rw [← e] at q; exact fun cl dx σ' F' H' _ st r => q cl dx F' H' st.ext r
      | bk ρ => rw [e2] at e; rw [← e] at q; exact q.elim
      | ct ρ => rw [e2] at e; rw [← e] at q; exact q.elim
      | no => rw [e2] at e; rw [← e] at q; exact q.elim
theorem fnm_of {x qual : Str} {st : Stmt} {f : Addr} {fd : FuncData} {N ps : List Str} {k np : Nat} {mir : List D → R Sl} {s : Sem} (F : Fun K x qual st f fd) (S : FnScope N ps (defScope st)) (gm : mg x = some (.ref f)) (b : Binds K fd ps []) (hnp : np = ps.length)
    (hb : ∀ (cdv : Value) (A : Around) (outer : List Env) (s0 : Shared) (H : Hp) (E : XK), Room k (A.deeper (envOfC qual (defScope st) s0.heap.objs.size f cdv)) →
      MSs (cxOf (L2.CX P w) P w K mg base N qual (defScope st) f cdv A outer s0 H E) (fun cls d _ H => E cls d H) (defBody st) s)
    (hm : ∀ ds, ds.length = np → mir ds = .no ∨ RunsTo s N ds (mir ds)) : FnM P w K mg base x (k + 1) np mir := ⟨f, fd, ps, fnok_of F S hnp hb hm, gm, F.kp, b⟩
end

/-! ### walks -/
@[simp] def slLst : D → R (List D)
  | .lst ds => .ok ds
  | .tup ds => .ok ds
  | .str x => .ok (x.cps.toList.map fun c => .str ⟨#[c]⟩)
  | .sq is => .ok (is.map .int)
  | _ => .no
@[simp] def seqI (m : Rho → R Sl) : Rho → R (List D) := fun ρ => (m ρ).bind fun s => (slD s).bind slLst
theorem pi_or {X : Cx} {tg it : Expr} {t u : TI} (h : PI X tg it t) (h' : PI X tg it u) : PI X tg it (fun σ H R => t σ H R ∨ u σ H R) := ⟨fun pins s σ H R I q => q.elim (h.run pins s σ H R I) (h'.run pins s σ H R I)⟩
theorem gives_list {K : PySem.W.Frag} {mg : Str → Option Value} {F H : Hp} {a : Addr} {vs : List V} {ds : List D} (h : LstAt K F a vs) (r : Reps K mg F ds vs) : Gives K mg (Itl K a) F H ds := fun F1 H1 sb st i => by
  have kp : ∀ a u, F a = some u → F1 a = some u := fun a u e => (st a u e).1
  have hq : SqL K H1 a vs := (h.mono kp).sq sb
  have hl := r.length
  refine ⟨fun hi => ⟨⟨vs, vs[i], hq, List.getElem?_eq_getElem (by omega)⟩, fun x H' hy => ?_⟩, fun hi => ⟨vs, hq, by omega⟩⟩
  obtain ⟨rfl, hy⟩ := hy
  obtain ⟨d, h1, h2⟩ := r.get' (hy vs hq)
  exact ⟨F1, d, h1, .refl sb, h2.mono kp⟩
theorem gives_sq {K : PySem.W.Frag} {mg : Str → Option Value} {F H : Hp} {a : Addr} {is : List Int} (h : ScrAt K F a (is.map V.int)) : Gives K mg (Itl K a) F H (is.map .int) := fun F1 H1 sb st i => by
  have kp : ∀ a u, F a = some u → F1 a = some u := fun a u e => (st a u e).1
  have hq : SqL K H1 a (is.map V.int) := (h.mono kp).sq sb
  refine ⟨fun hi => ?_, fun hi => ⟨_, hq, by rw [List.length_map] at hi ⊢; exact hi⟩⟩
  have hi' : i < is.length := by rw [List.length_map] at hi; exact hi
  have e0 : (is.map V.int)[i]? = some (.int is[i]) := by rw [List.getElem?_map, List.getElem?_eq_getElem hi']; rfl
  refine ⟨⟨_, _, hq, e0⟩, fun x H' hy => ?_⟩
  obtain ⟨rfl, hy⟩ := hy
  have e1 := hy _ hq
  rw [e0] at e1
  cases e1
  exact ⟨F1, .int is[i], by rw [List.getElem?_map, List.getElem?_eq_getElem hi']; rfl, .refl sb, rep_int.mpr rfl⟩
theorem gives_tup {K : PySem.W.Frag} {mg : Str → Option Value} {F H : Hp} {a : Addr} {vs : List V} {ds : List D} (h : TupAt K F a vs) (r : Reps K mg F ds vs) : Gives K mg (Itt K a) F H ds := fun F1 H1 sb st i => by
  have kp : ∀ a u, F a = some u → F1 a = some u := fun a u e => (st a u e).1
  have hq : SqT K H1 a vs := (h.mono kp).sq sb
  have hl := r.length
  refine ⟨fun hi => ⟨⟨vs, vs[i], hq, List.getElem?_eq_getElem (by omega)⟩, fun x H' hy => ?_⟩, fun hi => ⟨vs, hq, by omega⟩⟩
  obtain ⟨rfl, hy⟩ := hy
  obtain ⟨d, h1, h2⟩ := r.get' (hy vs hq)
  exact ⟨F1, d, h1, .refl sb, h2.mono kp⟩
theorem gives_str {K : PySem.W.Frag} {mg : Str → Option Value} {F H : Hp} {z : Str} : Gives K mg (Its z) F H (z.cps.toList.map fun c => .str ⟨#[c]⟩) := fun F1 H1 sb st i => by
  refine ⟨fun hi => ⟨show i < z.cps.size by simpa using hi, fun x H' hy => ?_⟩, fun hi => show z.cps.size ≤ i by simpa using hi⟩
  obtain ⟨rfl, c, h1, rfl⟩ := hy
  refine ⟨F1, .str ⟨#[c]⟩, ?_, .refl sb, rep_str.mpr rfl⟩
  rw [List.getElem?_map]
  have : z.cps.toList[i]? = some c := by simpa using h1
  rw [this]; rfl
theorem gives_range {K : PySem.W.Frag} {mg : Str → Option Value} {F H : Hp} {lo : Int} {n : Nat} : Gives K mg (Itr lo n) F H ((List.range n).map fun i => .int (lo + (i : Nat))) := fun F1 H1 sb st i => by
  refine ⟨fun hi => ⟨show i < n by simpa using hi, fun x H' hy => ?_⟩, fun hi => show n ≤ i by simpa using hi⟩
  obtain ⟨rfl, rfl⟩ := hy
  have hi' : i < n := by simpa using hi
  refine ⟨F1, .int (lo + (i : Nat)), ?_, .refl sb, rep_int.mpr rfl⟩
  rw [List.getElem?_map, List.getElem?_range hi']; rfl
section
variable {X : Cx} {W : WX} {e tg : Expr} {m : Rho → R Sl} {f : Rho → R D} {fs : Rho → R (List D)} {p pos : Pos}
theorem frz_rep {K : PySem.W.Frag} {mg : Str → Option Value} {F H F' H' : Hp} {s : Sl} {v : V} {d : D} (x : Ext F H F' H') (r : Res K mg H F' H' s v) (e : slD s = .ok d) : ∃ F2, Ext F H F2 H' ∧ Rep K mg F2 d v := by
  obtain ⟨d', F2, e2, x2, r2⟩ := freeze_res x r
  rw [e] at e2; cases e2
  exact ⟨F2, x2, r2⟩
/-- a list, a tuple, a text is walked -/
theorem mi_seq (he : ME X W e m) : MI X W tg e (seqI m) := by
  refine pi_imp (pi_or (pi_list he) (pi_or (pi_tup he) (pi_str he))) fun σ H Q ⟨F, ρ, g, q⟩ => ?_
  unfold seqI at q
  cases e1 : m ρ with
  | ex c ns ds => rw [e1] at q; exact .inl ⟨F, ρ, g, by rw [e1]; exact q⟩
  | no => rw [e1] at q; exact q.elim
  | ok s =>
    rw [e1] at q
    have q : match (slD s).bind slLst with | .ok ds => ∀ J F' H', Ext F H F' H' → Gives X.K X.mg J F' H' ds → Q J H' | .ex c ns ds => XPost X.K X.mg W F H σ c ns ds | .no => False := q
    cases e2 : slD s with
    | ex c ns ds => cases s <;> cases e2
    | no => rw [e2] at q; exact q.elim
    | ok d =>
      rw [e2, R.bind_ok] at q
      cases d with
      | lst ds =>
        refine .inl ⟨F, ρ, g, ?_⟩
        rw [e1]
        intro v F1 H1 x1 r1
        obtain ⟨F2, x2, r2⟩ := frz_rep x1 r1 e2
        obtain ⟨a, vs, ev, la, rs⟩ := rep_lst.mp r2
        exact ⟨a, ev, ⟨vs, la.sq x2.sub⟩, q _ F2 H1 x2 (gives_list la rs)⟩
      | sq is =>
        refine .inl ⟨F, ρ, g, ?_⟩
        rw [e1]
        intro v F1 H1 x1 r1
        obtain ⟨F2, x2, r2⟩ := frz_rep x1 r1 e2
        obtain ⟨a, ev, la⟩ := rep_sq.mp r2
        exact ⟨a, ev, ⟨_, la.sq x2.sub⟩, q _ F2 H1 x2 (gives_sq la)⟩
      | tup ds =>
        refine .inr (.inl ⟨F, ρ, g, ?_⟩)
        rw [e1]
        intro v F1 H1 x1 r1
        obtain ⟨F2, x2, r2⟩ := frz_rep x1 r1 e2
        obtain ⟨a, vs, ev, la, rs⟩ := rep_tup.mp r2
        exact ⟨a, ev, ⟨vs, la.sq x2.sub⟩, q _ F2 H1 x2 (gives_tup la rs)⟩
      | str z =>
        refine .inr (.inr ⟨F, ρ, g, ?_⟩)
        rw [e1]
        intro v F1 H1 x1 r1
        obtain ⟨F2, x2, r2⟩ := frz_rep x1 r1 e2
        exact ⟨z, rep_str.mp r2, q _ F2 H1 x2 gives_str⟩
      | _ => exact q.elim
def rngL (i j : Int) : List D := (List.range (j - i).toNat).map fun (k : Nat) => .int (i + (k : Nat))
/-- a guard's answer, never worked out -/
noncomputable def guardB (p : Prop) : Bool := @decide p (Classical.propDecidable p)
theorem guardB_iff {p : Prop} : guardB p = true ↔ p := @decide_eq_true_iff p (Classical.propDecidable p)
noncomputable def rngOk (i : Int) : Bool := guardB (-(2 ^ 62) ≤ i ∧ i < 2 ^ 62)
theorem rngOk_iff {i : Int} (h : rngOk i = true) : -(2 ^ 62) ≤ i ∧ i < 2 ^ 62 := guardB_iff.mp h
@[simp] noncomputable def rng1 (fs : Rho → R (List D)) : Rho → R (List D) := fun ρ => (fs ρ).bind fun
  | [.int j] => if rngOk j then .ok (rngL 0 j) else .no
  | _ => .no
@[simp] noncomputable def rng2 (fs : Rho → R (List D)) : Rho → R (List D) := fun ρ => (fs ρ).bind fun
  | [.int i, .int j] => if rngOk i && rngOk j then .ok (rngL i j) else .no
  | _ => .no
theorem helds_cons {K : PySem.W.Frag} {mg : Str → Option Value} {F H : Hp} {d : D} {ds : List D} {vs : List V} : Helds K mg F H (d :: ds) vs ↔ ∃ v r, vs = v :: r ∧ Held K mg F H d v ∧ Helds K mg F H ds r := Iff.rfl
theorem tL_then {β : Type} {k : List D → R β} {P : Hp → Hp → R β → Prop} {Q : List V → Hp → Prop} {K : PySem.W.Frag} {mg : Str → Option Value} {F H : Hp} {ρ : Rho} {σ : SS} (g : GoodM K mg F H ρ σ) (hp : P F H ((fs ρ).bind k))
    (px : ∀ c ns ds, P F H (.ex c ns ds) → XPost K mg W F H σ c ns ds) (pn : ¬ P F H .no) (pe : ∀ F' H' r, Ext F H F' H' → P F H r → P F' H' r)
    (h : ∀ d v F' H', fs ρ = .ok d → Ext F H F' H' → GoodM K mg F' H' ρ σ → Helds K mg F' H' d v → P F' H' (k d) → Q v H') : tL K mg W fs σ H Q := by
  refine ⟨F, ρ, g, ?_⟩
  cases e : fs ρ with
  | ok d => exact fun v F' H' x r => h d v F' H' e x (g.ext x) r (pe F' H' _ x (by rw [e] at hp; exact hp))
  | ex c ns ds => exact px c ns ds (by rw [e] at hp; exact hp)
  | no => exact pn (by rw [e] at hp; exact hp)
def IPost (K : PySem.W.Frag) (mg : Str → Option Value) (W : WX) (F H : Hp) (σ : SS) (Q : It → Hp → Prop) : R (List D) → Prop
  | .ok ds => ∀ J F' H', Ext F H F' H' → Gives K mg J F' H' ds → Q J H'
  | .ex c ns ds => XPost K mg W F H σ c ns ds
  | .no => False
theorem IPost.ext {K : PySem.W.Frag} {mg : Str → Option Value} {F H F1 H1 : Hp} {σ : SS} {Q : It → Hp → Prop} (x : Ext F H F1 H1) : ∀ {r : R (List D)}, IPost K mg W F H σ Q r → IPost K mg W F1 H1 σ Q r
  | .ok ds, h => fun J F' H' x' g => h J F' H' (x.trans x') g
  | .ex c ns ds, h => XPost.ext x h
  | .no, h => h
theorem tI_of {K : PySem.W.Frag} {mg : Str → Option Value} {f : Rho → R (List D)} {σ : SS} {H : Hp} {Q : It → Hp → Prop} (h : tI K mg W f σ H Q) : ∃ F ρ, GoodM K mg F H ρ σ ∧ IPost K mg W F H σ Q (f ρ) := by
  obtain ⟨F, ρ, g, q⟩ := h
  refine ⟨F, ρ, g, ?_⟩
  cases e : f ρ <;> rw [e] at q <;> exact q
theorem mi_range1 (hm : X.mg "range" = none) (ha : ML X W [e] fs) (hg : Gl X "range" := by rfl) (hs : starEach [e] X.env = [(false, eval e X.env)] := by rfl) : MI X W tg (.Call (.Name "range" p) [e] [] pos) (rng1 fs) := by
  refine pi_imp (pi_range1 hg hm ha hs) fun σ H Q t => ?_
  obtain ⟨F, ρ, g, q⟩ := tI_of t
  refine tL_then (P := fun F H => IPost X.K X.mg W F H σ Q) g q (fun _ _ _ z => z) (fun z => z) (fun F' H' r x z => z.ext x) fun d v F' H' _ x g' r z => ?_
  match d, r, z with
  | [.int j], r, z =>
    obtain ⟨v1, r1, rfl, h1, h2⟩ := r
    have z : IPost X.K X.mg W F' H' σ Q (if rngOk j then .ok (rngL 0 j) else .no) := z
    cases hb : rngOk j with
    | false => rw [hb] at z; exact z.elim
    | true =>
      rw [hb, if_pos rfl] at z
      have hb := rngOk_iff hb
      have e1 := held_int.mp h1
      subst e1
      have e2 : r1 = [] := h2
      subst e2
      refine ⟨j, rfl, hb.1, hb.2, z _ F' H' (.refl g'.sub) ?_⟩
      unfold rngL
      rw [Int.sub_zero]
      exact gives_range
  | [], r, z => exact z.elim
  | .non :: _, r, z => exact z.elim
  | .bl _ :: _, r, z => exact z.elim
  | .str _ :: _, r, z => exact z.elim
  | .tup _ :: _, r, z => exact z.elim
  | .lst _ :: _, r, z => exact z.elim
  | .dk _ _ :: _, r, z => exact z.elim
  | .dt _ _ :: _, r, z => exact z.elim
  | .obj _ _ _ :: _, r, z => exact z.elim
  | .sq _ :: _, r, z => exact z.elim
  | .int _ :: _ :: _, r, z => exact z.elim
theorem helds_ints {K : PySem.W.Frag} {mg : Str → Option Value} {F H : Hp} : ∀ {is : List Int} {vs : List V}, Helds K mg F H (is.map .int) vs → vs = is.map V.int
  | [], _, e => e
  | i :: is, vs, ⟨v, r, e, h, t⟩ => by
    rw [e, held_int.mp h, helds_ints t]; rfl
/-- all items are ints -/
def asInts : List D → Option (List Int)
  | [] => some []
  | .int i :: ds => (asInts ds).map (i :: ·)
  | _ => none
theorem asInts_eq : ∀ {ds : List D} {is : List Int}, asInts ds = some is → ds = is.map .int
  | [], is, h => by cases h; rfl
  | d :: ds, is, h => by
    cases d <;> try (cases h; done)
    unfold asInts at h
    cases e : asInts ds with
    | none => rw [e] at h; cases h
    | some js => rw [e] at h; cases h; rw [asInts_eq e]; rfl
theorem mi_range2 {e2 : Expr} (hm : X.mg "range" = none) (ha : ML X W [e, e2] fs) (hg : Gl X "range" := by rfl) (hs : starEach [e, e2] X.env = [(false, eval e X.env), (false, eval e2 X.env)] := by rfl) (hs2 : starEach [e2] X.env = [(false, eval e2 X.env)] := by rfl) :
    MI X W tg (.Call (.Name "range" p) [e, e2] [] pos) (rng2 fs) := by
  refine pi_imp (pi_range2 hg hm ha hs hs2) fun σ H Q t => ?_
  obtain ⟨F, ρ, g, q⟩ := tI_of t
  refine tL_then (P := fun F H => IPost X.K X.mg W F H σ Q) g q (fun _ _ _ z => z) (fun z => z) (fun F' H' r x z => z.ext x) fun d v F' H' _ x g' r z => ?_
  unfold rng2 at q
  split at z
  · rename_i i j hfs
    cases hb : (rngOk i && rngOk j) with
    | false => rw [hb] at z; exact z.elim
    | true =>
      rw [hb, if_pos rfl] at z
      rw [Bool.and_eq_true] at hb
      have h1 := rngOk_iff hb.1
      have h2 := rngOk_iff hb.2
      have ev : v = [V.int i, V.int j] := helds_ints (is := [i, j]) r
      subst ev
      exact ⟨i, j, rfl, ⟨h1.1, h1.2, h2.1, h2.2⟩, z _ F' H' (.refl g'.sub) gives_range⟩
  · exact z.elim
end
end Mp

namespace Mp
open PySem PySem.Spec PyProof.Rows L2

/-! ### ints -/
@[simp] def iiD (f : Int → Int → D) : D → D → R D
  | .int i, .int j => .ok (f i j)
  | _, _ => .no
@[simp] def iicD (c : Int → Int → Bool) (f : Int → Int → D) : D → D → R D
  | .int i, .int j => if c i j then .ok (f i j) else .no
  | _, _ => .no
theorem iiD_nx {f : Int → Int → D} (a b : D) : NoEx (iiD f a b) := fun c ns ds h => by
  unfold iiD at h; split at h <;> cases h
theorem iicD_nx {c : Int → Int → Bool} {f : Int → Int → D} (a b : D) : NoEx (iicD c f a b) := fun _ ns ds h => by
  unfold iicD at h
  split at h
  · split at h <;> cases h
  · cases h
theorem iiD_ok {f : Int → Int → D} {a b d : D} (h : iiD f a b = .ok d) : ∃ i j, a = .int i ∧ b = .int j ∧ d = f i j := by
  unfold iiD at h; split at h
  · cases h; exact ⟨_, _, rfl, rfl, rfl⟩
  · cases h
theorem iicD_ok {c : Int → Int → Bool} {f : Int → Int → D} {a b d : D} (h : iicD c f a b = .ok d) : ∃ i j, a = .int i ∧ b = .int j ∧ c i j = true ∧ d = f i j := by
  unfold iicD at h; split at h
  · next i j =>
    split at h
    · cases h; exact ⟨_, _, rfl, rfl, by assumption, rfl⟩
    · cases h
  · cases h
section
variable {X : Cx}
theorem sim_i0 {g : Int → Int → V} {f : Int → Int → D} (h : ∀ K mg F H i j, Held K mg F H (f i j) (g i j)) : Sim2 X (rI0 g) (iiD f) := fun F H d1 d2 v1 v2 d Q sb h1 h2 e q => by
  obtain ⟨i, j, rfl, rfl, rfl⟩ := iiD_ok e
  exact ⟨i, j, held_int.mp h1, held_int.mp h2, q _ (h _ _ _ _ i j)⟩
theorem sim_i {C : Int → Int → Prop} {c : Int → Int → Bool} {g : Int → Int → V} {f : Int → Int → D} (hc : ∀ i j, c i j = true → C i j) (h : ∀ K mg F H i j, Held K mg F H (f i j) (g i j)) : Sim2 X (rI C g) (iicD c f) := fun F H d1 d2 v1 v2 d Q sb h1 h2 e q => by
  obtain ⟨i, j, rfl, rfl, k, rfl⟩ := iicD_ok e
  exact ⟨i, j, held_int.mp h1, held_int.mp h2, hc i j k, q _ (h _ _ _ _ i j)⟩
theorem hi (f : Int → Int → Int) : ∀ (K : PySem.W.Frag) (mg : Str → Option Value) F H (i j : Int), Held K mg F H (.int (f i j)) (.int (f i j)) := fun _ _ _ _ _ _ => held_int.mpr rfl
theorem hb (f : Int → Int → Bool) : ∀ (K : PySem.W.Frag) (mg : Str → Option Value) F H (i j : Int), Held K mg F H (.bl (f i j)) (.bl (f i j)) := fun _ _ _ _ _ _ => held_bl.mpr rfl
end
/-- ints and texts are added -/
@[simp] def addD : D → D → R D
  | .int i, .int j => .ok (.int (i + j))
  | .str i, .str j => if i.length + j.length ≤ sizeLine then .ok (.str (i ++ j)) else .no
  | _, _ => .no
@[simp] def subD : D → D → R D := iiD fun i j => .int (i - j)
noncomputable def mulOk (i j : Int) : Bool := guardB (IntMulOk i j)
@[simp] noncomputable def mulD : D → D → R D := iicD mulOk fun i j => .int (i * j)
noncomputable def divOk (i j : Int) : Bool := guardB (0 < j ∧ Builtin.divisionGoesByPylong i j = false)
@[simp] noncomputable def divD : D → D → R D := iicD divOk fun i j => .int (i / j)
@[simp] def modD : D → D → R D := iicD (fun _ j => decide (0 < j)) fun i j => .int (i % j)
noncomputable def powOk (i j : Int) : Bool := guardB (0 ≤ j ∧ (Builtin.Int.intBits i : Int) * j ≤ 2 ^ 27)
@[simp] noncomputable def powD : D → D → R D := iicD powOk fun i j => .int (i ^ j.toNat)
noncomputable def shlOk (i j : Int) : Bool := guardB (0 ≤ j ∧ (Builtin.Int.intBits i : Int) + j ≤ 2 ^ 27)
@[simp] noncomputable def shlD : D → D → R D := iicD shlOk fun i j => .int (i * 2 ^ j.toNat)
@[simp] def shrD : D → D → R D := iicD (fun _ j => decide (0 ≤ j)) fun i j => .int (i / 2 ^ j.toNat)
@[simp] def andD : D → D → R D := iiD fun i j => .int (Builtin.bitAnd i j)
@[simp] def xorD : D → D → R D := iiD fun i j => .int (Builtin.bitXor i j)
@[simp] def cmpD (p : Int → Int → Bool) : D → D → R D := iiD fun i j => .bl (p i j)
@[simp] def ltD : D → D → R D := cmpD fun i j => decide (i < j)
@[simp] def leD : D → D → R D := cmpD fun i j => decide (i ≤ j)
@[simp] def gtD : D → D → R D := cmpD fun i j => decide (j < i)
@[simp] def geD : D → D → R D := cmpD fun i j => decide (j ≤ i)

/-! ### == of plain data -/
mutual
def toPy : D → Option PyData
  | .non => some .none
  | .bl b => some (.bool b)
  | .int i => some (.int i)
  | .str x => some (.str x)
  | .tup ds => (toPys ds).map .tuple
  | .lst ds => (toPys ds).map .list
  | _ => none
def toPys : List D → Option (List PyData)
  | [] => some []
  | d :: ds => (toPy d).bind fun p => (toPys ds).map (p :: ·)
end
section
variable {K : PySem.W.Frag} {mg : Str → Option Value} {F H : Hp}
mutual
theorem dp_of (sb : Sub F H) : ∀ {d : D} {v : V} {p : PyData}, Rep K mg F d v → toPy d = some p → Dp K H v p
  | .non, v, p, r, e => by rw [rep_non.mp r]; unfold toPy at e; cases e; exact .non
  | .bl b, v, p, r, e => by rw [rep_bl.mp r]; unfold toPy at e; cases e; exact .bl b
  | .int b, v, p, r, e => by rw [rep_int.mp r]; unfold toPy at e; cases e; exact .int b
  | .str b, v, p, r, e => by rw [rep_str.mp r]; unfold toPy at e; cases e; exact .str b
  | .tup ds, v, p, r, e => by
    obtain ⟨a, vs, rfl, h1, h2⟩ := rep_tup.mp r
    unfold toPy at e
    cases e1 : toPys ds with
    | none => rw [e1] at e; cases e
    | some ps => rw [e1] at e; cases e; exact .tup (h1.sq sb) (dps_of sb h2 e1)
  | .lst ds, v, p, r, e => by
    obtain ⟨a, vs, rfl, h1, h2⟩ := rep_lst.mp r
    unfold toPy at e
    cases e1 : toPys ds with
    | none => rw [e1] at e; cases e
    | some ps => rw [e1] at e; cases e; exact .lst (h1.sq sb) (dps_of sb h2 e1)
  | .dk ks ds, v, p, r, e => by unfold toPy at e; cases e
  | .dt ks ds, v, p, r, e => by unfold toPy at e; cases e
  | .obj c ns ds, v, p, r, e => by unfold toPy at e; cases e
  | .sq _, v, p, r, e => by unfold toPy at e; cases e
theorem dps_of (sb : Sub F H) : ∀ {ds : List D} {vs : List V} {ps : List PyData}, Reps K mg F ds vs → toPys ds = some ps → DpAll K H vs ps
  | [], vs, ps, r, e => by rw [reps_nil.mp r]; unfold toPys at e; cases e; exact .nil
  | d :: ds, vs, ps, r, e => by
    obtain ⟨v, rs, rfl, h1, h2⟩ := reps_cons.mp r
    unfold toPys at e
    cases e1 : toPy d with
    | none => rw [e1] at e; cases e
    | some p1 =>
      rw [e1, Option.bind_some] at e
      cases e2 : toPys ds with
      | none => rw [e2] at e; cases e
      | some p2 => rw [e2] at e; cases e; exact .cons (dp_of sb h1 e1) (dps_of sb h2 e2)
end
theorem dp_held (sb : Sub F H) {d : D} {v : V} {p : PyData} (h : Held K mg F H d v) (e : toPy d = some p) : Dp K H v p := by
  rcases h with r | ⟨q, rfl, o⟩
  · exact dp_of sb r e
  · cases d with
    | lst ds =>
      obtain ⟨vs, h1, h2⟩ := o
      unfold toPy at e
      cases e1 : toPys ds with
      | none => rw [e1] at e; cases e
      | some ps => rw [e1] at e; cases e; exact .lst (.inl (.inl h1)) (dps_of sb h2 e1)
    | dk ks ds => unfold toPy at e; cases e
    | dt ks ds => unfold toPy at e; cases e
    | obj c ns ds => unfold toPy at e; cases e
    | _ => exact o.elim
end
def eqR (d e : D) : Option Bool := match toPy d, toPy e with
  | some p, some q => if SeqAt.shaped p && SeqAt.shaped q then some (PyData.eqv p q) else none
  | _, _ => none
@[simp] def eqD (d e : D) : R D := match eqR d e with
  | some b => .ok (.bl b)
  | none => .no
@[simp] def neD (d e : D) : R D := match eqR d e with
  | some b => .ok (.bl !b)
  | none => .no
theorem eqD_nx (a b : D) : NoEx (eqD a b) := fun c ns ds h => by unfold eqD at h; split at h <;> cases h
theorem neD_nx (a b : D) : NoEx (neD a b) := fun c ns ds h => by unfold neD at h; split at h <;> cases h
@[simp] def isD : D → D → R D
  | .bl a, .bl b => .ok (.bl (decide (a = b)))
  | _, _ => .no
section
variable {X : Cx} {W : WX} {a b e : Expr} {f h : Rho → R D} {m : Rho → R Sl} {fs : Rho → R (List D)} {pos p : Pos}
theorem eqR_ok {d1 d2 : D} {k : Bool} (e : eqR d1 d2 = some k) : ∃ p q, toPy d1 = some p ∧ toPy d2 = some q ∧ SeqAt.shaped p = true ∧ SeqAt.shaped q = true ∧ k = PyData.eqv p q := by
  unfold eqR at e
  split at e
  · next p q e1 e2 =>
    split at e
    · next hs => rw [Bool.and_eq_true] at hs; cases e; exact ⟨p, q, e1, e2, hs.1, hs.2, rfl⟩
    · cases e
  · cases e
theorem sim_eq : Sim2 X (rEqD X.K) eqD := fun F H d1 d2 v1 v2 d Q sb h1 h2 e q => by
  unfold eqD at e
  cases e0 : eqR d1 d2 with
  | none => rw [e0] at e; cases e
  | some k =>
    rw [e0] at e; cases e
    obtain ⟨p, r, e1, e2, s1, s2, rfl⟩ := eqR_ok e0
    exact ⟨p, r, dp_held sb h1 e1, dp_held sb h2 e2, s1, s2, q _ (held_bl.mpr rfl)⟩
theorem sim_ne : Sim2 X (rNeD X.K) neD := fun F H d1 d2 v1 v2 d Q sb h1 h2 e q => by
  unfold neD at e
  cases e0 : eqR d1 d2 with
  | none => rw [e0] at e; cases e
  | some k =>
    rw [e0] at e; cases e
    obtain ⟨p, r, e1, e2, s1, s2, rfl⟩ := eqR_ok e0
    exact ⟨p, r, dp_held sb h1 e1, dp_held sb h2 e2, s1, s2, q _ (held_bl.mpr rfl)⟩
theorem addD_nx (a b : D) : NoEx (addD a b) := fun c ns ds h => by
  unfold addD at h
  split at h
  · cases h
  · split at h <;> cases h
  · cases h
theorem sim_add : Sim2 X (fun x y H Q => rI0 (fun i j => .int (i + j)) x y H Q ∨ ∃ i j, x = .str i ∧ y = .str j ∧ i.length + j.length ≤ sizeLine ∧ Q (.str (i ++ j)) H) addD := fun F H d1 d2 v1 v2 d Q sb h1 h2 e q => by
  unfold addD at e
  split at e
  · cases e
    exact .inl ⟨_, _, held_int.mp h1, held_int.mp h2, q _ (held_int.mpr rfl)⟩
  · split at e
    · next hl => cases e; exact .inr ⟨_, _, held_str.mp h1, held_str.mp h2, hl, q _ (held_str.mpr rfl)⟩
    · cases e
  · cases e
theorem mv_add (ha : MV X W a f) (hb : MV X W b h) : MV X W (.BinOp a .Add b pos) (op2 addD f h) := mv_op (op_add.or op_add_str) sim_add addD_nx ha hb
theorem mv_sub (ha : MV X W a f) (hb : MV X W b h) : MV X W (.BinOp a .Sub b pos) (op2 subD f h) := mv_op op_sub (sim_i0 (hi _)) iiD_nx ha hb
theorem op_mulG : OpR X (binaryOp .Mult) (rI (fun i j => mulOk i j = true) fun i j => .int (i * j)) := opI fun _ _ _ _ _ _ _ hc q => PyProof.Rows.mul_int q (guardB_iff.mp hc)
theorem op_powG : OpR X (binaryOp .Pow) (rI (fun i j => powOk i j = true) fun i j => .int (i ^ j.toNat)) := opI fun _ _ _ _ _ _ _ hc q => PyProof.Rows.pow_int (guardB_iff.mp hc).1 (guardB_iff.mp hc).2 q
theorem mv_mul (ha : MV X W a f) (hb : MV X W b h) : MV X W (.BinOp a .Mult b pos) (op2 mulD f h) := mv_op op_mulG (sim_i (fun i j e => e) (hi _)) iicD_nx ha hb
theorem op_fdivM : OpR X (binaryOp .FloorDiv) (rI (fun i j => divOk i j = true) fun i j => .int (i / j)) := opI fun i j _ _ _ _ _ hc q => by
  obtain ⟨h1, h2⟩ := guardB_iff.mp hc
  exact floordiv_int (by omega) (by rw [Int.fdiv_eq_ediv_of_nonneg i (by omega)]; exact q) (.inl h2)
theorem mv_div (ha : MV X W a f) (hb : MV X W b h) : MV X W (.BinOp a .FloorDiv b pos) (op2 divD f h) := mv_op op_fdivM (sim_i (fun i j e => e) (hi _)) iicD_nx ha hb
theorem mv_mod (ha : MV X W a f) (hb : MV X W b h) : MV X W (.BinOp a .Mod b pos) (op2 modD f h) := mv_op op_mod (sim_i (fun i j e => of_decide_eq_true e) (hi _)) iicD_nx ha hb
theorem mv_pow (ha : MV X W a f) (hb : MV X W b h) : MV X W (.BinOp a .Pow b pos) (op2 powD f h) := mv_op op_powG (sim_i (fun i j e => e) (hi _)) iicD_nx ha hb
theorem mv_shl (ha : MV X W a f) (hb : MV X W b h) : MV X W (.BinOp a .LShift b pos) (op2 shlD f h) := mv_op op_shlW (sim_i (fun i j e => (show CShl i j from guardB_iff.mp e)) (hi _)) iicD_nx ha hb
theorem mv_shr (ha : MV X W a f) (hb : MV X W b h) : MV X W (.BinOp a .RShift b pos) (op2 shrD f h) := mv_op op_shr (sim_i (fun i j e => of_decide_eq_true e) (hi _)) iicD_nx ha hb
theorem mv_and2 (ha : MV X W a f) (hb : MV X W b h) : MV X W (.BinOp a .BitAnd b pos) (op2 andD f h) := mv_op op_and (sim_i0 (hi _)) iiD_nx ha hb
theorem mv_xor (ha : MV X W a f) (hb : MV X W b h) : MV X W (.BinOp a .BitXor b pos) (op2 xorD f h) := mv_op op_xor (sim_i0 (hi _)) iiD_nx ha hb
theorem mv_lt (ha : MV X W a f) (hb' : MV X W b h) : MV X W (.Compare a [.Lt] [b] pos) (op2 ltD f h) := mv_cmp op_lt (sim_i0 (hb _)) iiD_nx ha hb' (nomark _)
theorem mv_le (ha : MV X W a f) (hb' : MV X W b h) : MV X W (.Compare a [.LtE] [b] pos) (op2 leD f h) := mv_cmp op_le (sim_i0 (hb _)) iiD_nx ha hb' (nomark _)
theorem mv_gt (ha : MV X W a f) (hb' : MV X W b h) : MV X W (.Compare a [.Gt] [b] pos) (op2 gtD f h) := mv_cmp op_gt (sim_i0 (hb _)) iiD_nx ha hb' (nomark _)
theorem mv_ge (ha : MV X W a f) (hb' : MV X W b h) : MV X W (.Compare a [.GtE] [b] pos) (op2 geD f h) := mv_cmp op_ge (sim_i0 (hb _)) iiD_nx ha hb' (nomark _)
theorem mt_lt (ha : MV X W a f) (hb' : MV X W b h) : MT X W (.Compare a [.Lt] [b] pos) (toT (op2 ltD f h)) := mt_cmp op_lt (sim_i0 (hb _)) iiD_nx ha hb' (nomark _)
theorem mt_le (ha : MV X W a f) (hb' : MV X W b h) : MT X W (.Compare a [.LtE] [b] pos) (toT (op2 leD f h)) := mt_cmp op_le (sim_i0 (hb _)) iiD_nx ha hb' (nomark _)
theorem mt_gt (ha : MV X W a f) (hb' : MV X W b h) : MT X W (.Compare a [.Gt] [b] pos) (toT (op2 gtD f h)) := mt_cmp op_gt (sim_i0 (hb _)) iiD_nx ha hb' (nomark _)
theorem mt_ge (ha : MV X W a f) (hb' : MV X W b h) : MT X W (.Compare a [.GtE] [b] pos) (toT (op2 geD f h)) := mt_cmp op_ge (sim_i0 (hb _)) iiD_nx ha hb' (nomark _)
theorem mv_eq (hu : X.A.units + 64 < cLine) (ha : MV X W a f) (hb : MV X W b h) : MV X W (.Compare a [.Eq] [b] pos) (op2 eqD f h) := mv_cmp (op_eqD hu) sim_eq eqD_nx ha hb (nomark _)
theorem mv_ne (hu : X.A.units + 64 < cLine) (ha : MV X W a f) (hb : MV X W b h) : MV X W (.Compare a [.NotEq] [b] pos) (op2 neD f h) := mv_cmp (op_neD hu) sim_ne neD_nx ha hb (nomark _)
theorem mt_eq (hu : X.A.units + 64 < cLine) (ha : MV X W a f) (hb : MV X W b h) : MT X W (.Compare a [.Eq] [b] pos) (toT (op2 eqD f h)) := mt_cmp (op_eqD hu) sim_eq eqD_nx ha hb (nomark _)
theorem mt_ne (hu : X.A.units + 64 < cLine) (ha : MV X W a f) (hb : MV X W b h) : MT X W (.Compare a [.NotEq] [b] pos) (toT (op2 neD f h)) := mt_cmp (op_neD hu) sim_ne neD_nx ha hb (nomark _)
theorem isD_nx (a b : D) : NoEx (isD a b) := fun c ns ds h => by unfold isD at h; split at h <;> cases h
theorem sim_is : Sim2 X rIsB isD := fun F H d1 d2 v1 v2 d Q sb h1 h2 e q => by
  unfold isD at e
  split at e
  · next x y =>
    cases e
    exact ⟨x, y, held_bl.mp h1, held_bl.mp h2, by
      refine q _ (held_bl.mpr ?_)
      first | rfl | (congr 1; cases x <;> cases y <;> rfl)⟩
  · cases e
theorem mv_is (ha : MV X W a f) (hb : MV X W b h) : MV X W (.Compare a [.Is] [b] pos) (op2 isD f h) := mv_cmp op_isBl sim_is isD_nx ha hb (nomark _)
theorem mt_is (ha : MV X W a f) (hb : MV X W b h) : MT X W (.Compare a [.Is] [b] pos) (toT (op2 isD f h)) := mt_cmp op_isBl sim_is isD_nx ha hb (nomark _)
/-- -x -/
@[simp] def negD : D → R D
  | .int i => .ok (.int (-i))
  | _ => .no
theorem mv_neg (ha : MV X W a f) : MV X W (.UnaryOp .USub a pos) (op1 negD f) := by
  refine pe_imp (pe_un un_neg ha) fun σ H Q ⟨F, ρ, gd, q⟩ => ?_
  show tV X.K X.mg W f σ H fun x H1 => rU (fun i => .int (-i)) x H1 Q
  refine tV_then (P := fun F H => BPost X.K X.mg W F H σ Q) gd q (fun _ _ _ z => z) (fun z => z) (fun F' H' r x z => z.ext x) fun d v F' H' _ x g' r z => ?_
  cases d with
  | int i => exact ⟨i, held_int.mp r, z _ F' H' (.refl g'.sub) (held_int.mpr rfl)⟩
  | _ => exact z.elim

/-! ### calls of built-ins -/
def SimC (X : Cx) (r : List V → Hp → VK → Prop) (g : List D → R D) : Prop := ∀ F H ds vs d (Q : VK), Sub F H → Helds X.K X.mg F H ds vs → g ds = .ok d → (∀ v, Held X.K X.mg F H d v → Q v H) → r vs H Q
def SimCS (X : Cx) (r : List V → Hp → VK → Prop) (g : List D → R Sl) : Prop := ∀ F H ds vs s (Q : VK), Sub F H → Helds X.K X.mg F H ds vs → g ds = .ok s → (∀ v F' H', Ext F H F' H' → Res X.K X.mg H F' H' s v → Q v H') → r vs H Q
@[simp] def opL (g : List D → R D) (fs : Rho → R (List D)) : Rho → R D := fun ρ => (fs ρ).bind g
@[simp] def opLS (g : List D → R Sl) (fs : Rho → R (List D)) : Rho → R Sl := fun ρ => (fs ρ).bind g
variable {x : Str} {id T : String} {es : List Expr}
theorem mv_callB {r : List V → Hp → VK → Prop} {g : List D → R D} (hc : CallR X (.builtin id) r) (hs : SimC X r g) (hn : ∀ ds, NoEx (g ds)) (hm : X.mg x = none) (hv : bootBuiltins x = some (.builtin id)) (ha : ML X W (e :: es) fs) (hg : Gl X x := by rfl)
    (hnn : x ≠ "__name__" := by decide) (hdb : (x == ("__debug__" : Str)) = false := by decide) (he : starEach (e :: es) X.env = (false, eval e X.env) :: starEach es X.env := by rfl) (hpl : (backTo pos (starEach es X.env)).any (·.1) = false := by rfl) :
    MV X W (.Call (.Name x p) (e :: es) [] pos) (opL g fs) := by
  refine pe_imp (pe_callB hc hg hm hv ha hnn hdb he hpl) fun σ H Q ⟨F, ρ, gd, q⟩ => ?_
  refine tL_then (P := fun F H => BPost X.K X.mg W F H σ Q) gd q (fun _ _ _ z => z) (fun z => z) (fun F' H' r x z => z.ext x) fun d v F' H' _ x g' r z => ?_
  cases e1 : g d with
  | ok d' => rw [e1] at z; exact hs F' H' d v d' Q g'.sub r e1 fun v hv => z v F' H' (.refl g'.sub) hv
  | ex c ns ds => exact (hn d c ns ds e1).elim
  | no => rw [e1] at z; exact z.elim
theorem me_callB {r : List V → Hp → VK → Prop} {g : List D → R Sl} (hc : CallR X (.builtin id) r) (hs : SimCS X r g) (hn : ∀ ds, NoEx (g ds)) (hm : X.mg x = none) (hv : bootBuiltins x = some (.builtin id)) (ha : ML X W (e :: es) fs) (hg : Gl X x := by rfl)
    (hnn : x ≠ "__name__" := by decide) (hdb : (x == ("__debug__" : Str)) = false := by decide) (he : starEach (e :: es) X.env = (false, eval e X.env) :: starEach es X.env := by rfl) (hpl : (backTo pos (starEach es X.env)).any (·.1) = false := by rfl) :
    ME X W (.Call (.Name x p) (e :: es) [] pos) (opLS g fs) := by
  refine pe_imp (pe_callB hc hg hm hv ha hnn hdb he hpl) fun σ H Q ⟨F, ρ, gd, q⟩ => ?_
  refine tL_then (P := fun F H => EPost X.K X.mg W F H σ Q) gd q (fun _ _ _ z => z) (fun z => z) (fun F' H' r x z => z.ext x) fun d v F' H' _ x g' r z => ?_
  cases e1 : g d with
  | ok d' => rw [e1] at z; exact hs F' H' d v d' Q g'.sub r e1 fun v F2 H2 x2 hv => z v F2 H2 x2 hv
  | ex c ns ds => exact (hn d c ns ds e1).elim
  | no => rw [e1] at z; exact z.elim
theorem mv_callTy {r : List V → Hp → VK → Prop} {g : List D → R D} (hc : CallR X (.type T) r) (hs : SimC X r g) (hn : ∀ ds, NoEx (g ds)) (hm : X.mg x = none) (hv : bootBuiltins x = some (.type T)) (ha : ML X W (e :: es) fs) (hg : Gl X x := by rfl)
    (hnn : x ≠ "__name__" := by decide) (hdb : (x == ("__debug__" : Str)) = false := by decide) (he : starEach (e :: es) X.env = (false, eval e X.env) :: starEach es X.env := by rfl) (hpl : (backTo pos (starEach es X.env)).any (·.1) = false := by rfl) :
    MV X W (.Call (.Name x p) (e :: es) [] pos) (opL g fs) := by
  refine pe_imp (pe_callTy hc hg hm hv ha hnn hdb he hpl) fun σ H Q ⟨F, ρ, gd, q⟩ => ?_
  refine tL_then (P := fun F H => BPost X.K X.mg W F H σ Q) gd q (fun _ _ _ z => z) (fun z => z) (fun F' H' r x z => z.ext x) fun d v F' H' _ x g' r z => ?_
  cases e1 : g d with
  | ok d' => rw [e1] at z; exact hs F' H' d v d' Q g'.sub r e1 fun v hv => z v F' H' (.refl g'.sub) hv
  | ex c ns ds => exact (hn d c ns ds e1).elim
  | no => rw [e1] at z; exact z.elim
theorem me_callTy {r : List V → Hp → VK → Prop} {g : List D → R Sl} (hc : CallR X (.type T) r) (hs : SimCS X r g) (hn : ∀ ds, NoEx (g ds)) (hm : X.mg x = none) (hv : bootBuiltins x = some (.type T)) (ha : ML X W (e :: es) fs) (hg : Gl X x := by rfl)
    (hnn : x ≠ "__name__" := by decide) (hdb : (x == ("__debug__" : Str)) = false := by decide) (he : starEach (e :: es) X.env = (false, eval e X.env) :: starEach es X.env := by rfl) (hpl : (backTo pos (starEach es X.env)).any (·.1) = false := by rfl) :
    ME X W (.Call (.Name x p) (e :: es) [] pos) (opLS g fs) := by
  refine pe_imp (pe_callTy hc hg hm hv ha hnn hdb he hpl) fun σ H Q ⟨F, ρ, gd, q⟩ => ?_
  refine tL_then (P := fun F H => EPost X.K X.mg W F H σ Q) gd q (fun _ _ _ z => z) (fun z => z) (fun F' H' r x z => z.ext x) fun d v F' H' _ x g' r z => ?_
  cases e1 : g d with
  | ok d' => rw [e1] at z; exact hs F' H' d v d' Q g'.sub r e1 fun v F2 H2 x2 hv => z v F2 H2 x2 hv
  | ex c ns ds => exact (hn d c ns ds e1).elim
  | no => rw [e1] at z; exact z.elim
/-- len of lists, tuples, texts -/
@[simp] def lenD : List D → R D
  | [.lst ds] => .ok (.int ds.length)
  | [.tup ds] => .ok (.int ds.length)
  | [.str z] => if z.length ≤ sizeLine then .ok (.int z.length) else .no
  | [.sq is] => .ok (.int is.length)
  | _ => .no
theorem lenD_nx (ds : List D) : NoEx (lenD ds) := fun c ns es h => by
  unfold lenD at h
  split at h
  · cases h
  · cases h
  · split at h <;> cases h
  · cases h
  · cases h
theorem helds_one {K : PySem.W.Frag} {mg : Str → Option Value} {F H : Hp} {d : D} {vs : List V} (h : Helds K mg F H [d] vs) : ∃ v, vs = [v] ∧ Held K mg F H d v := by
  obtain ⟨v, r, e, h1, h2⟩ := h
  have h2 : r = [] := h2
  subst h2
  exact ⟨v, e, h1⟩
theorem sim_len : SimC X (fun xs H Q => (∃ p ys, xs = [.ref p] ∧ (SqL X.K H p ys ∨ SqT X.K H p ys) ∧ Q (.int ys.length) H) ∨ ∃ z, xs = [.str z] ∧ z.length ≤ sizeLine ∧ Q (.int z.length) H) lenD := fun F H ds vs d Q sb hs e q => by
  unfold lenD at e
  split at e
  · cases e
    obtain ⟨v, rfl, h⟩ := helds_one hs
    obtain ⟨a, vs, rfl, h1, h2⟩ := h.lst sb
    exact .inl ⟨a, vs, rfl, .inl h1, q _ (held_int.mpr (by rw [h2.length]))⟩
  · cases e
    obtain ⟨v, rfl, h⟩ := helds_one hs
    obtain ⟨a, vs, rfl, h1, h2⟩ := h.tup sb
    exact .inl ⟨a, vs, rfl, .inr h1, q _ (held_int.mpr (by rw [h2.length]))⟩
  · split at e
    · next hz =>
      cases e
      obtain ⟨v, rfl, h⟩ := helds_one hs
      rw [held_str.mp h]
      exact .inr ⟨_, rfl, hz, q _ (held_int.mpr rfl)⟩
    · cases e
  · cases e
    obtain ⟨v, rfl, h⟩ := helds_one hs
    obtain ⟨a, rfl, h1⟩ := h.sq sb
    exact .inl ⟨a, _, rfl, .inl (h1.sq sb), q _ (held_int.mpr (by rw [List.length_map]))⟩
  · cases e
theorem mv_len (hm : X.mg "len" = none) (ha : ML X W [e] fs) (hg : Gl X "len" := by rfl) (he : starEach [e] X.env = (false, eval e X.env) :: starEach [] X.env := by rfl) : MV X W (.Call (.Name "len" p) [e] [] pos) (opL lenD fs) :=
  mv_callB (call_len_seq.or call_len_str) sim_len lenD_nx hm PySem.boot_len ha hg (by decide) (by decide) he rfl
@[simp] def intD : List D → R D
  | [.int i] => .ok (.int i)
  | [.bl k] => .ok (.int (if k then 1 else 0))
  | _ => .no
theorem intD_nx (ds : List D) : NoEx (intD ds) := fun c ns es h => by unfold intD at h; split at h <;> cases h
theorem sim_int : SimC X (fun xs H Q => (∃ i, xs = [.int i] ∧ Q (.int i) H) ∨ ∃ k, xs = [.bl k] ∧ Q (.int (if k then 1 else 0)) H) intD := fun F H ds vs d Q sb hs e q => by
  unfold intD at e
  split at e
  · cases e
    obtain ⟨v, rfl, h⟩ := helds_one hs
    exact .inl ⟨_, by rw [held_int.mp h], q _ (held_int.mpr rfl)⟩
  · cases e
    obtain ⟨v, rfl, h⟩ := helds_one hs
    exact .inr ⟨_, by rw [held_bl.mp h], q _ (held_int.mpr rfl)⟩
  · cases e
theorem mv_intc (hm : X.mg "int" = none) (ha : ML X W [e] fs) (hg : Gl X "int" := by rfl) (he : starEach [e] X.env = (false, eval e X.env) :: starEach [] X.env := by rfl) : MV X W (.Call (.Name "int" p) [e] [] pos) (opL intD fs) :=
  mv_callTy call_int1 sim_int intD_nx hm (by decide +kernel) ha hg (by decide) (by decide) he rfl
@[simp] def absD : List D → R D
  | [.int i] => .ok (.int (if i < 0 then -i else i))
  | _ => .no
theorem absD_nx (ds : List D) : NoEx (absD ds) := fun c ns es h => by unfold absD at h; split at h <;> cases h
theorem mv_abs (hm : X.mg "abs" = none) (ha : ML X W [e] fs) (hg : Gl X "abs" := by rfl) (he : starEach [e] X.env = (false, eval e X.env) :: starEach [] X.env := by rfl) : MV X W (.Call (.Name "abs" p) [e] [] pos) (opL absD fs) :=
  mv_callB call_abs (fun F H ds vs d Q sb hs e q => by
    unfold absD at e
    split at e
    · cases e
      obtain ⟨v, rfl, h⟩ := helds_one hs
      exact ⟨_, by rw [held_int.mp h], q _ (held_int.mpr rfl)⟩
    · cases e) absD_nx hm (by decide +kernel) ha hg (by decide) (by decide) he rfl
end
end Mp

namespace Mp
open PySem PySem.Spec PyProof.Rows L2

section
variable {F H : Hp} {p : Addr} {u : HO}
theorem ext_new (sb : Sub F H) (n : H p = none) (nt : ∀ vs, u ≠ .tup vs) : Ext F H F (upd H p u) where
  sub := ⟨fun a w e => Rd.keep (fun b o q => by rw [upd_ne (ne_of_none q n)]; exact q) (sb.rd a w e), fun a vs e => by
    by_cases z : a = p
    · subst z; rw [upd_same] at e; cases e; exact (nt _ rfl).elim
    · rw [upd_ne z] at e; exact sb.tup a vs e⟩
  keep := fun b o q => by rw [upd_ne (ne_of_none q n)]; exact q
  frz := fun _ _ e => e
  new := fun _ _ e => .inl e
theorem ext_tup (sb : Sub F H) (n : H p = none) {vs : List V} : Ext F H (upd F p (.tup vs)) (upd H p (.tup vs)) where
  sub := ⟨fun a w e => by
    by_cases z : a = p
    · subst z; rw [upd_same] at e; cases e; exact .inl upd_same
    · rw [upd_ne z] at e
      exact Rd.keep (fun b o q => by rw [upd_ne (ne_of_none q n)]; exact q) (sb.rd a w e), fun a ws e => by
    by_cases z : a = p
    · subst z; rw [upd_same] at e; cases e; exact upd_same
    · rw [upd_ne z] at e ⊢; exact sb.tup a ws e⟩
  keep := fun b o q => by rw [upd_ne (ne_of_none q n)]; exact q
  frz := fun b o q => by rw [upd_ne (ne_of_none q (sb.none n))]; exact q
  new := fun b o q => by
    by_cases z : b = p
    · subst z; exact .inr n
    · rw [upd_ne z] at q; exact .inl q
end
theorem tup_rep {K : PySem.W.Frag} {mg : Str → Option Value} {F H : Hp} {p : Addr} {vs : List V} {ds : List D} (sb : Sub F H) (n : H p = none) (r : Reps K mg F ds vs) : Rep K mg (upd F p (.tup vs)) (.tup ds) (.ref p) :=
  rep_tup.mpr ⟨p, vs, rfl, .inl upd_same, r.mono (ext_tup sb n).frz⟩

/-! ### displays -/
@[simp] def lstF (fs : Rho → R (List D)) : Rho → R Sl := fun ρ => (fs ρ).bind fun ds => if ds.length ≤ sizeLine then .ok (.ow (.lst ds)) else .no
@[simp] def tupF (fs : Rho → R (List D)) : Rho → R Sl := fun ρ => (fs ρ).bind fun ds => if ds.length ≤ sizeLine then .ok (.fz (.tup ds)) else .no
section
variable {X : Cx} {W : WX} {es : List Expr} {fs : Rho → R (List D)} {pos : Pos}
theorem tA_then {β : Type} {k : List D → R β} {P : Hp → Hp → R β → Prop} {Q : List V → Hp → Prop} {K : PySem.W.Frag} {mg : Str → Option Value} {F H : Hp} {ρ : Rho} {σ : SS} (g : GoodM K mg F H ρ σ) (hp : P F H ((fs ρ).bind k))
    (px : ∀ c ns ds, P F H (.ex c ns ds) → XPost K mg W F H σ c ns ds) (pn : ¬ P F H .no) (pe : ∀ F' H' r, Ext F H F' H' → P F H r → P F' H' r)
    (h : ∀ d v F' H', fs ρ = .ok d → Ext F H F' H' → GoodM K mg F' H' ρ σ → Reps K mg F' d v → P F' H' (k d) → Q v H') : tA K mg W fs σ H Q := by
  refine ⟨F, ρ, g, ?_⟩
  cases e : fs ρ with
  | ok d => exact fun v F' H' x r => h d v F' H' e x (g.ext x) r (pe F' H' _ x (by rw [e] at hp; exact hp))
  | ex c ns ds => exact px c ns ds (by rw [e] at hp; exact hp)
  | no => exact pn (by rw [e] at hp; exact hp)
theorem me_lst (ha : MA X W es fs) : ME X W (.List es pos) (lstF fs) := by
  refine pe_imp (pe_lst ha) fun σ H Q ⟨F, ρ, gd, q⟩ => ?_
  refine tA_then (P := fun F H => EPost X.K X.mg W F H σ Q) gd q (fun _ _ _ z => z) (fun z => z) (fun F' H' r x z => z.ext x) fun ds vs F' H' _ x g' r z => ?_
  by_cases hl : ds.length ≤ sizeLine
  · rw [if_pos hl] at z
    refine ⟨by rw [r.length]; exact hl, fun p n => z _ F' (upd H' p (.lst vs)) (ext_new g'.sub n fun _ q => nomatch q) ⟨p, rfl, n, g'.sub.none n, vs, upd_same, r⟩⟩
  · rw [if_neg hl] at z; exact z.elim
theorem me_tup {k} (ha : MA X W es fs) : ME X W (.Tuple es k pos) (tupF fs) := by
  refine pe_imp (pe_tup ha) fun σ H Q ⟨F, ρ, gd, q⟩ => ?_
  refine tA_then (P := fun F H => EPost X.K X.mg W F H σ Q) gd q (fun _ _ _ z => z) (fun z => z) (fun F' H' r x z => z.ext x) fun ds vs F' H' _ x g' r z => ?_
  by_cases hl : ds.length ≤ sizeLine
  · rw [if_pos hl] at z
    refine ⟨by rw [r.length]; exact hl, fun p n => z _ _ _ (ext_tup g'.sub n) (tup_rep g'.sub n r)⟩
  · rw [if_neg hl] at z; exact z.elim
end

/-! ### subscripts -/
@[simp] def ixD : D → D → R D
  | .lst ds, .int i => match atI ds i with | some d => .ok d | none => .no
  | .tup ds, .int i => match atI ds i with | some d => .ok d | none => .no
  | .sq is, .int i => match atI is i with | some k => .ok (.int k) | none => .no
  | .str z, .int i => match atI z.cps.toList i with | some c => if z.length ≤ sizeLine then .ok (.str ⟨#[c]⟩) else .no | none => .no
  | _, _ => .no
theorem ixD_nx (a b : D) : NoEx (ixD a b) := fun c ns ds h => by
  unfold ixD at h
  split at h
  · split at h <;> cases h
  · split at h <;> cases h
  · split at h <;> cases h
  · split at h
    · split at h <;> cases h
    · cases h
  · cases h
@[simp] def ixF (f h : Rho → R D) : Rho → R Sl := fun ρ => (f ρ).bind fun a => (h ρ).bind fun b => (ixD a b).bind fun d => .ok (.fz d)
theorem reps_at {K : PySem.W.Frag} {mg : Str → Option Value} {F : Hp} {ds : List D} {vs : List V} {i : Int} {d : D} (r : Reps K mg F ds vs) (h : atI ds i = some d) : ∃ v, atI vs i = some v ∧ Rep K mg F d v := by
  unfold atI at h ⊢
  rw [r.length]
  cases e : ixN ds.length i with
  | none => rw [e] at h; cases h
  | some j =>
    rw [e] at h
    exact r.get h
section
variable {X : Cx} {W : WX} {a b e : Expr} {f h : Rho → R D} {m : Rho → R Sl} {fs : Rho → R (List D)} {pos p : Pos}
theorem sim_ix : Sim2S X (rIx X.K) (fun a b => (ixD a b).bind fun d => .ok (.fz d)) := fun F H d1 d2 v1 v2 s Q sb h1 h2 e q => by
  have e : (ixD d1 d2).bind (fun d => R.ok (Sl.fz d)) = .ok s := e
  unfold ixD at e
  split at e
  · next ds i _ =>
    cases e1 : atI ds i with
    | none => rw [e1] at e; cases e
    | some d =>
      rw [e1] at e
      cases e
      obtain ⟨a, vs, rfl, hq, r⟩ := h1.lst sb
      obtain ⟨v, hv, rv⟩ := reps_at r e1
      exact .inl ⟨a, vs, i, v, rfl, held_int.mp h2, hq, hv, q v F H (.refl sb) rv⟩
  · next ds i _ =>
    cases e1 : atI ds i with
    | none => rw [e1] at e; cases e
    | some d =>
      rw [e1] at e
      cases e
      obtain ⟨a, vs, rfl, hq, r⟩ := h1.tup sb
      obtain ⟨v, hv, rv⟩ := reps_at r e1
      exact .inr (.inl ⟨a, vs, i, v, rfl, held_int.mp h2, hq, hv, q v F H (.refl sb) rv⟩)
  · next is i _ =>
    cases e1 : atI is i with
    | none => rw [e1] at e; cases e
    | some k =>
      rw [e1] at e
      cases e
      obtain ⟨a, rfl, hq⟩ := h1.sq sb
      have hv : atI (is.map V.int) i = some (.int k) := by
        unfold atI at e1 ⊢
        rw [List.length_map]
        cases e2 : ixN is.length i with
        | none => rw [e2] at e1; cases e1
        | some j =>
          rw [e2] at e1
          have e1 : is[j]? = some k := e1
          show (is.map V.int)[j]? = _
          rw [List.getElem?_map, e1]; rfl
      exact .inl ⟨a, _, i, _, rfl, held_int.mp h2, hq.sq sb, hv, q _ F H (.refl sb) (show Rep X.K X.mg F (.int k) _ from rep_int.mpr rfl)⟩
  · next z i _ =>
    cases e1 : atI z.cps.toList i with
    | none => rw [e1] at e; cases e
    | some c =>
      rw [e1] at e
      have e : ((if z.length ≤ sizeLine then R.ok (D.str { cps := #[c] }) else R.no).bind fun d => R.ok (Sl.fz d)) = R.ok s := e
      by_cases hz : z.length ≤ sizeLine
      · rw [if_pos hz] at e
        cases e
        exact .inr (.inr ⟨z, i, c, held_str.mp h1, held_int.mp h2, hz, e1, q _ F H (.refl sb) (show Rep X.K X.mg F (.str _) _ from rep_str.mpr rfl)⟩)
      · rw [if_neg hz] at e; cases e
  · cases e
theorem bind_nx {r : R D} (h : NoEx r) : NoEx (r.bind fun d => R.ok (Sl.fz d)) := fun c ns ds e => by
  cases r with
  | ok d => cases e
  | ex c' ns' ds' => exact h c' ns' ds' rfl
  | no => cases e
theorem me_ix (ha : MV X W a f) (hb : MV X W b h) (hs : PlainIx b := by exact fun _ _ => rfl) : ME X W (.Subscript a b pos) (ixF f h) := by
  refine pe_imp (pe_ix ix_seq ha hb hs) fun σ H Q ⟨F, ρ, gd, q⟩ => ?_
  refine two_looks (k := fun a b => (ixD a b).bind fun d => R.ok (Sl.fz d)) (P := fun F H => EPost X.K X.mg W F H σ Q) gd (show EPost X.K X.mg W F H σ Q ((f ρ).bind fun a => (h ρ).bind fun b => (ixD a b).bind fun d => R.ok (Sl.fz d)) from q) (fun _ _ _ _ _ z => z) (fun _ _ z => z) (fun _ _ _ _ _ x z => z.ext x) fun d1 d2 v1 v2 F' H' x g' r1 r2 z => ?_
  cases e : (ixD d1 d2).bind fun d => R.ok (Sl.fz d) with
  | ok d => rw [e] at z; exact sim_ix F' H' d1 d2 v1 v2 d Q g'.sub r1 r2 e fun v F2 H2 x2 hv => z v F2 H2 x2 hv
  | ex c ns ds => exact (bind_nx (ixD_nx d1 d2) c ns ds e).elim
  | no => rw [e] at z; exact z.elim
theorem mv_ix (ha : MV X W a f) (hb : MV X W b h) (hs : PlainIx b := by exact fun _ _ => rfl) : MV X W (.Subscript a b pos) (op2 ixD f h) := by
  refine pe_imp (me_ix ha hb hs) fun σ H Q ⟨F, ρ, gd, q⟩ => ⟨F, ρ, gd, ?_⟩
  unfold ixF
  unfold op2 at q
  cases e1 : f ρ with
  | ok d1 =>
    rw [e1] at q
    cases e2 : h ρ with
    | ok d2 =>
      rw [e2] at q
      rw [R.bind_ok, R.bind_ok] at q ⊢
      cases e3 : ixD d1 d2 with
      | ok d => rw [e3] at q; exact fun v F' H' x r => q v F' H' x (.inl r)
      | ex c ns ds => rw [e3] at q; exact q
      | no => rw [e3] at q; exact q
    | ex c ns ds => rw [e2] at q; exact q
    | no => rw [e2] at q; exact q
  | ex c ns ds => rw [e1] at q; exact q
  | no => rw [e1] at q; exact q

/-! ### slices -/
def cutG {α : Type} (xs : List α) (lo hi : Option Int) : List α := (xs.drop (HT.sIx xs.length 0 lo)).take (HT.sIx xs.length xs.length hi - HT.sIx xs.length 0 lo)
@[simp] def cutD (d : D) (lo hi : Option Int) : R Sl := match d with
  | .lst ds => .ok (.ow (.lst (cutG ds lo hi)))
  | .tup ds => .ok (.fz (.tup (cutG ds lo hi)))
  | .str z => if z.length ≤ sizeLine then .ok (.fz (.str (cutS z lo hi))) else .no
  | .sq is => .ok (.ow (.lst ((cutG is lo hi).map .int)))
  | _ => .no
theorem cutD_nx (d lo hi) : NoEx (cutD d lo hi) := fun c ns ds h => by
  unfold cutD at h
  split at h
  · cases h
  · cases h
  · split at h <;> cases h
  · cases h
  · cases h
theorem reps_cut {K : PySem.W.Frag} {mg : Str → Option Value} {F : Hp} {ds : List D} {vs : List V} {lo hi : Option Int} (r : Reps K mg F ds vs) : Reps K mg F (cutG ds lo hi) (cutV vs lo hi) := by
  unfold cutG cutV
  rw [r.length]
  exact (r.drop _).take _
def tOo (K : PySem.W.Frag) (mg : Str → Option Value) (W : WX) (o : Rho → R (Option Int)) : TO := fun σ H Q => ∃ F ρ, GoodM K mg F H ρ σ ∧ match o ρ with
  | .ok i => ∀ F' H', Ext F H F' H' → Q i H'
  | .ex c ns ds => XPost K mg W F H σ c ns ds
  | .no => False
abbrev MO (X : Cx) (W : WX) (e : Option Expr) (o : Rho → R (Option Int)) : Prop := PO X e (tOo X.K X.mg W o)
@[simp] def oNo : Rho → R (Option Int) := fun _ => .ok none
@[simp] def asI : D → R (Option Int)
  | .int i => .ok (some i)
  | _ => .no
@[simp] def oSo (f : Rho → R D) : Rho → R (Option Int) := fun ρ => (f ρ).bind asI
theorem po_imp {e : Option Expr} {t t' : TO} (h : PO X e t) (i : ∀ σ H Q, t' σ H Q → t σ H Q) : PO X e t' := ⟨fun pins s σ H Q I q => h.run pins s σ H Q I (i σ H Q q)⟩
theorem mo_none : MO X W none oNo := po_imp po_none fun σ H Q ⟨F, ρ, g, q⟩ => q F H (.refl g.sub)
theorem mo_some (he : MV X W e f) : MO X W (some e) (oSo f) := po_imp (po_some he) fun σ H Q ⟨F, ρ, g, q⟩ => by
  refine ⟨F, ρ, g, ?_⟩
  unfold oSo at q
  cases e1 : f ρ with
  | ok d =>
    rw [e1] at q
    cases d with
    | int i => exact fun v F' H' x r => ⟨i, held_int.mp r, q F' H' x⟩
    | _ => exact q.elim
  | ex c ns ds => rw [e1] at q; exact q
  | no => rw [e1] at q; exact q
@[simp] def cutF (f : Rho → R D) (o u : Rho → R (Option Int)) : Rho → R Sl := fun ρ => (f ρ).bind fun d => (o ρ).bind fun lo => (u ρ).bind fun hi => cutD d lo hi
theorem me_slice {lo hi : Option Expr} {o u : Rho → R (Option Int)} {p2 : Pos} (he : MV X W e f) (hl : MO X W lo o) (hu : MO X W hi u) : ME X W (.Subscript e (.Slice lo hi none p2) pos) (cutF f o u) := by
  refine pe_imp (pe_slice (sl_list.or (sl_tupA.or sl_str)) he hl hu) fun σ H Q ⟨F, ρ, gd, q⟩ => ?_
  refine tV_then (P := fun F H => EPost X.K X.mg W F H σ Q) gd q (fun _ _ _ z => z) (fun z => z) (fun F' H' r x z => z.ext x) fun d v F1 H1 _ x1 g1 r1 z1 => ?_
  refine ⟨F1, ρ, g1, ?_⟩
  cases e1 : o ρ with
  | ex c ns ds => rw [e1] at z1; exact z1
  | no => rw [e1] at z1; exact z1
  | ok lo =>
    rw [e1] at z1
    intro F2 H2 x2
    refine ⟨F2, ρ, g1.ext x2, ?_⟩
    have z2 : EPost X.K X.mg W F2 H2 σ Q ((u ρ).bind fun hi => cutD d lo hi) := EPost.ext x2 z1
    cases e2 : u ρ with
    | ex c ns ds => rw [e2] at z2; exact z2
    | no => rw [e2] at z2; exact z2
    | ok hi =>
      rw [e2] at z2
      intro F3 H3 x3
      have z3 : EPost X.K X.mg W F3 H3 σ Q (cutD d lo hi) := EPost.ext x3 z2
      have r3 := (r1.ext x2).ext x3
      have sb := x3.sub
      unfold cutD at z3
      cases d with
      | lst ds =>
        obtain ⟨a, vs, rfl, hq, r⟩ := r3.lst sb
        exact .inl ⟨a, vs, rfl, hq, fun p n => z3 _ F3 _ (ext_new sb n fun _ q => nomatch q) ⟨p, rfl, n, sb.none n, _, upd_same, reps_cut r⟩⟩
      | tup ds =>
        obtain ⟨a, vs, rfl, hq, r⟩ := r3.tup sb
        refine .inr (.inl ⟨a, vs, rfl, hq, fun ⟨h1, h2⟩ => ?_, fun _ p n => z3 _ _ _ (ext_tup sb n) (tup_rep sb n (reps_cut r))⟩)
        have ec : cutG ds lo hi = ds := by
          have hlen := r.length
          rw [hlen] at h1 h2
          unfold cutG
          rw [h1, h2, Nat.sub_zero, List.drop_zero, List.take_length]
        have z3 : EPost X.K X.mg W F3 H3 σ Q (.ok (.fz (.tup (cutG ds lo hi)))) := z3
        rw [ec] at z3
        rcases r3 with rr | ⟨pp, _, oo⟩
        · exact z3 _ F3 H3 (.refl sb) rr
        · exact oo.elim
      | sq is =>
        obtain ⟨a, rfl, hq⟩ := r3.sq sb
        have ec : cutV (is.map V.int) lo hi = (cutG is lo hi).map V.int := by
          unfold cutV cutG
          rw [List.length_map, List.map_take, List.map_drop]
        refine .inl ⟨a, _, rfl, hq.sq sb, fun p n => z3 _ F3 _ (ext_new sb n fun _ q => nomatch q) ⟨p, rfl, n, sb.none n, _, upd_same, ?_⟩⟩
        rw [ec]
        exact reps_ints _
      | str z =>
        have ez := held_str.mp r3
        subst ez
        by_cases hz : z.length ≤ sizeLine
        · have z3 : EPost X.K X.mg W F3 H3 σ Q (if z.length ≤ sizeLine then .ok (.fz (.str (cutS z lo hi))) else .no) := z3
          rw [if_pos hz] at z3
          exact .inr (.inr ⟨z, rfl, hz, z3 _ F3 H3 (.refl sb) (show Rep X.K X.mg F3 (.str _) _ from rep_str.mpr rfl)⟩)
        · have z3 : EPost X.K X.mg W F3 H3 σ Q (if z.length ≤ sizeLine then .ok (.fz (.str (cutS z lo hi))) else .no) := z3
          rw [if_neg hz] at z3; exact z3.elim
      | _ => exact z3.elim

/-! ### lists and tuples joined, repeated -/
@[simp] def catD : D → D → R Sl
  | .lst a, .lst b => if a.length + b.length ≤ sizeLine then .ok (.ow (.lst (a ++ b))) else .no
  | .tup a, .tup b => if a.length + b.length ≤ sizeLine then .ok (.fz (.tup (a ++ b))) else .no
  | _, _ => .no
theorem catD_nx (a b : D) : NoEx (catD a b) := fun c ns ds h => by
  unfold catD at h
  split at h
  · split at h <;> cases h
  · split at h <;> cases h
  · cases h
/-- list + list, whatever may be read -/
theorem Inv.lstR {X : Cx} {pins : List (Addr × Obj)} {σ : SS} {H : Hp} {s : Shared} {l : Addr} {xs : List V} (I : L2.Inv X pins σ H s) (hH : Rd H l (.lst xs)) : xs.length ≤ sizeLine ∧ ∃ (its : List Value) (n : Nat), Vals xs its ∧ xs.length = its.length ∧ s.heap.get? l = some { cls := .type "list", data := .seq its.toArray n } := by
  obtain ⟨z, its, n, r, e⟩ := hH.ok I.hok
  exact ⟨z, its, n, r, r.length, e⟩
def rCatM : R2 := fun x y H Q => ∃ l b xs zs, x = .ref l ∧ y = .ref b ∧ Rd H l (.lst xs) ∧ Rd H b (.lst zs) ∧ xs.length + zs.length ≤ sizeLine ∧ ∀ p, H p = none → Q (.ref p) (upd H p (.lst (xs ++ zs)))
theorem op_catM : OpR X (binaryOp .Add) rCatM := by
  intro pins s σ H x y v u Q I rx ry h
  obtain ⟨l, b, xs, zs, rfl, rfl, hH, hB, hz, q⟩ := h
  cases rx
  cases ry
  obtain ⟨z, its, n, r, hl, e⟩ := Inv.lstR I hH
  obtain ⟨z2, its2, n2, r2, hl2, e2⟩ := Inv.lstR I hB
  refine PySem.P.add_list e e2 ?_ (by rw [List.size_toArray, List.size_toArray]; omega)
  have ea : its.toArray ++ its2.toArray = (its ++ its2).toArray := by simp
  rw [ea]
  exact ⟨.ref _, _, I.lnew (t' := s.toks) (r.append r2) (by rw [List.length_append]; omega), rfl, q _ I.fresh⟩
theorem sim_cat : Sim2S X (fun x y H Q => rCatM x y H Q ∨ rCatA X.K x y H Q) catD := fun F H d1 d2 v1 v2 s Q sb h1 h2 e q => by
  unfold catD at e
  split at e
  · next a b =>
    split at e
    · next hl =>
      cases e
      obtain ⟨p1, vs, rfl, hq, r⟩ := h1.lstR sb
      obtain ⟨p2, ws, rfl, hq2, r2⟩ := h2.lstR sb
      exact .inl ⟨p1, p2, vs, ws, rfl, rfl, hq, hq2, by rw [r.length, r2.length]; exact hl, fun p n => q _ F _ (ext_new sb n fun _ q => nomatch q) ⟨p, rfl, n, sb.none n, _, upd_same, r.append r2⟩⟩
    · cases e
  · next a b =>
    split at e
    · next hl =>
      cases e
      obtain ⟨p1, vs, rfl, hq, r⟩ := h1.tup sb
      obtain ⟨p2, ws, rfl, hq2, r2⟩ := h2.tup sb
      have l1 := r.length
      have l2 := r2.length
      refine .inr ⟨p1, p2, vs, ws, rfl, rfl, hq, hq2, by rw [l1, l2]; exact hl, fun z => ?_, fun _ z => ?_, fun _ _ p n => q _ _ _ (ext_tup sb n) (tup_rep sb n (r.append r2))⟩
      · have ea : a = [] := by
          rw [z] at l1
          exact List.eq_nil_of_length_eq_zero l1.symm
        subst ea
        rcases h2 with rr | ⟨_, _, oo⟩
        · exact q _ F H (.refl sb) rr
        · exact oo.elim
      · have eb : b = [] := by
          rw [z] at l2
          exact List.eq_nil_of_length_eq_zero l2.symm
        subst eb
        rw [List.append_nil] at q
        rcases h1 with rr | ⟨_, _, oo⟩
        · exact q _ F H (.refl sb) rr
        · exact oo.elim
    · cases e
  · cases e
theorem me_cat (ha : MV X W a f) (hb : MV X W b h) : ME X W (.BinOp a .Add b pos) (op2S catD f h) := me_op (op_catM.or op_catA) sim_cat catD_nx ha hb
/-- a new list times an int -/
@[simp] def repF (m : Rho → R Sl) (h : Rho → R D) : Rho → R Sl := fun ρ => (m ρ).bind fun s => (h ρ).bind fun b => match s, b with
  | .ow (.lst a), .int k => if -(2 ^ 63) ≤ k ∧ k < 2 ^ 63 ∧ a.length * k.toNat ≤ sizeLine then .ok (.ow (.lst (List.replicate k.toNat a).flatten)) else .no
  | _, _ => .no
theorem reps_flat {K : PySem.W.Frag} {mg : Str → Option Value} {F : Hp} {ds : List D} {vs : List V} (r : Reps K mg F ds vs) : ∀ n : Nat, Reps K mg F (List.replicate n ds).flatten (List.replicate n vs).flatten
  | 0 => reps_nil.mpr rfl
  | n + 1 => by
    rw [List.replicate_succ, List.replicate_succ, List.flatten_cons, List.flatten_cons]
    exact r.append (reps_flat r n)
theorem me_rep (ha : ME X W a m) (hb : MV X W b h) : ME X W (.BinOp a .Mult b pos) (repF m h) := by
  refine pe_imp (pe_op op_rep ha hb) fun σ H Q ⟨F, ρ, gd, q⟩ => ?_
  refine tM_then (P := fun F H => EPost X.K X.mg W F H σ Q) gd q (fun _ _ _ z => z) (fun z => z) (fun F' H' r x z => z.ext x) fun s v F1 H1 _ x1 g1 r1 z1 => ?_
  refine tV_then (P := fun F H => EPost X.K X.mg W F H σ Q) g1 z1 (fun _ _ _ z => z) (fun z => z) (fun F' H' r x z => z.ext x) fun d w F2 H2 _ x2 g2 r2 z2 => ?_
  cases s with
  | un => exact r1.elim
  | fz _ => exact z2.elim
  | ow sd =>
    obtain ⟨p, rfl, n, np, o⟩ := r1
    cases sd with
    | lst ds =>
      cases d with
      | int k =>
        have z2 : EPost X.K X.mg W F2 H2 σ Q (if -(2 ^ 63) ≤ k ∧ k < 2 ^ 63 ∧ ds.length * k.toNat ≤ sizeLine then .ok (.ow (.lst (List.replicate k.toNat ds).flatten)) else .no) := z2
        by_cases hc : -(2 ^ 63) ≤ k ∧ k < 2 ^ 63 ∧ ds.length * k.toNat ≤ sizeLine
        · rw [if_pos hc] at z2
          obtain ⟨vs, e, r⟩ := o.ext x2
          refine ⟨p, k, vs, rfl, held_int.mp r2, e, hc.1, hc.2.1, by rw [r.length]; exact hc.2.2, fun p' n' => z2 _ F2 _ (ext_new x2.sub n' fun _ q => nomatch q) ⟨p', rfl, n', x2.sub.none n', _, upd_same, reps_flat r _⟩⟩
        · rw [if_neg hc] at z2; exact z2.elim
      | _ => exact z2.elim
    | _ => exact z2.elim

/-! ### isinstance of a built-in type -/
@[simp] def tyN : D → Option String
  | .non => some "NoneType" | .bl _ => some "bool" | .int _ => some "int" | .str _ => some "str" | .tup _ => some "tuple" | .lst _ => some "list" | .dk _ _ => some "dict" | .dt _ _ => some "dict" | .obj _ _ _ => none | .sq _ => some "list"
@[simp] def isT (T : String) (d : D) : R D := match tyN d with
  | some a => if T = "int" then .ok (.bl (decide (a = "int" ∨ a = "bool"))) else if T = "bool" ∨ T = "str" ∨ T = "tuple" ∨ T = "list" ∨ T = "dict" then .ok (.bl (decide (a = T))) else .no
  | none => .no
theorem isT_kit {T a : String} {d : D} {r : D} (ha : tyN d = some a) (h : isT T d = .ok r) : ∃ b, r = .bl b ∧ PySem.W.kitOne X.K (.type a) (.type T) = some b := by
  have aa : a ∈ ["NoneType", "bool", "int", "str", "tuple", "list", "dict"] := by
    cases d <;> (unfold tyN at ha; first | (cases ha; simp) | cases ha)
  unfold isT at h
  rw [ha] at h
  have h : (if T = "int" then R.ok (.bl (decide (a = "int" ∨ a = "bool"))) else if T = "bool" ∨ T = "str" ∨ T = "tuple" ∨ T = "list" ∨ T = "dict" then R.ok (.bl (decide (a = T))) else R.no) = R.ok r := h
  have key : ∀ a ∈ ["NoneType", "bool", "int", "str", "tuple", "list", "dict"], (kitB a "int" = some (decide (a = "int" ∨ a = "bool"))) ∧ ∀ T ∈ ["bool", "str", "tuple", "list", "dict"], kitB a T = some (decide (a = T)) := by decide +kernel
  by_cases h1 : T = "int"
  · rw [if_pos h1] at h; cases h
    subst h1
    exact ⟨_, rfl, kit_ty (key a aa).1⟩
  · rw [if_neg h1] at h
    by_cases h2 : T = "bool" ∨ T = "str" ∨ T = "tuple" ∨ T = "list" ∨ T = "dict"
    · rw [if_pos h2] at h; cases h
      exact ⟨_, rfl, kit_ty ((key a aa).2 T (by simpa using h2))⟩
    · rw [if_neg h2] at h; cases h
def rIsM (X : Cx) (T : String) : List V → Hp → VK → Prop := fun xs H Q => ∃ F d x r, xs = [x, .ty T] ∧ Sub F H ∧ Held X.K X.mg F H d x ∧ isT T d = .ok r ∧ ∀ y, Held X.K X.mg F H r y → Q y H
theorem call_isM {T : String} : CallR X (.builtin "isinstance") (rIsM X T) := by
  intro pins s σ H xs us Q I r hh
  obtain ⟨F, d, x, rd, rfl, sb, hd, e, q⟩ := hh
  obtain ⟨u, w', rfl, rx, ry⟩ := vals2 r
  have ry : w' = Value.type T := ry
  subst ry
  cases ea : tyN d with
  | none => unfold isT at e; rw [ea] at e; cases e
  | some a =>
    obtain ⟨b, rfl, hk⟩ := isT_kit (X := X) ea e
    have fin : ∀ tk, EP X pins σ Q (.bool b) { s with toks := tk } := fun tk => ⟨.bl b, H, I.tok tk, rfl, q _ (held_bl.mpr rfl)⟩
    cases d with
    | non => cases ea; rw [held_non.mp hd] at rx; cases rx; exact PySem.W.kia_one PySem.W.kitx_none I.kIn True.intro hk (fun z => nomatch z) fin
    | bl k => cases ea; rw [held_bl.mp hd] at rx; cases rx; exact PySem.W.kia_one PySem.W.kitx_bool I.kIn True.intro hk (fun z => nomatch z) fin
    | int k => cases ea; rw [held_int.mp hd] at rx; obtain ⟨t, rfl⟩ := rx; exact PySem.W.kia_one PySem.W.kitx_int I.kIn True.intro hk (fun z => nomatch z) fin
    | str k => cases ea; rw [held_str.mp hd] at rx; obtain ⟨t, rfl⟩ := rx; exact PySem.W.kia_one PySem.W.kitx_str I.kIn True.intro hk (fun z => nomatch z) fin
    | tup ds =>
      cases ea
      obtain ⟨p, vs, rfl, hq, _⟩ := hd.tup sb
      cases rx
      obtain ⟨its, _, ⟨o, h1, h2, _⟩, _⟩ := I.tuple hq
      exact PySem.W.kia_one PySem.W.kitx_tuple I.kIn ⟨o, h1, h2⟩ hk (fun z => nomatch z) fin
    | lst ds =>
      cases ea
      obtain ⟨p, vs, rfl, hq, _⟩ := hd.lst sb
      cases rx
      obtain ⟨its, _, ⟨o, n, h1, h2, _⟩, _⟩ := I.list hq
      exact PySem.W.kia_one PySem.W.kitx_list I.kIn ⟨o, h1, h2⟩ hk (fun z => nomatch z) fin
    | dk ks ds =>
      cases ea
      obtain ⟨p, ws, rfl, hq, _⟩ := hd.dk sb
      cases rx
      obtain ⟨_, _, _, _, o, _, _, h1, h2, _⟩ := hq.ok I.hok
      exact PySem.W.kia_one PySem.W.kitx_dict I.kIn ⟨o, h1, h2.1⟩ hk (fun z => nomatch z) fin
    | dt ks ds =>
      cases ea
      obtain ⟨p, ws, rfl, hq, _⟩ := hd.dt sb
      cases rx
      obtain ⟨_, _, _, _, o, _, _, h1, h2, _⟩ := hq.ok I.hok
      exact PySem.W.kia_one PySem.W.kitx_dict I.kIn ⟨o, h1, h2.1⟩ hk (fun z => nomatch z) fin
    | sq is =>
      cases ea
      obtain ⟨p, rfl, hq⟩ := hd.sq sb
      cases rx
      obtain ⟨its, _, ⟨o, n, h1, h2, _⟩, _⟩ := I.list (hq.sq sb)
      exact PySem.W.kia_one PySem.W.kitx_list I.kIn ⟨o, h1, h2⟩ hk (fun z => nomatch z) fin
    | obj c ns ds => cases ea
theorem mv_isi {T : String} {tn : Str} {p2 : Pos} (hm : X.mg "isinstance" = none) (hm2 : X.mg tn = none) (he : MV X W e f) (hv2 : bootBuiltins tn = some (.type T)) (hg2 : Gl X tn := by rfl) (hg : Gl X "isinstance" := by rfl) (hn2 : tn ≠ "__name__" := by decide) (hd2 : (tn == ("__debug__" : Str)) = false := by decide)
    (hs1 : starEach [e, .Name tn p2] X.env = (false, eval e X.env) :: starEach [.Name tn p2] X.env := by rfl) (hs2 : starEach [.Name tn p2] X.env = (false, eval (.Name tn p2) X.env) :: starEach [] X.env := by rfl) (hpl : (backTo pos (starEach [.Name tn p2] X.env)).any (·.1) = false := by rfl) :
    MV X W (.Call (.Name "isinstance" p) [e, .Name tn p2] [] pos) (op1 (isT T) f) := by
  refine pe_imp (pe_callB (call_isM (T := T)) hg hm PyProof.Rows.boot_isinstance (pa_cons he (pa_cons (pe_bltn hg2 hm2 hv2 (v := .ty T) rfl hn2 hd2) pa_nil hs2) hs1) (by decide) (by decide) hs1 hpl) fun σ H Q ⟨F, ρ, gd, q⟩ => ?_
  show tV X.K X.mg W f σ H fun x H1 => rIsM X T [x, .ty T] H1 Q
  refine tV_then (P := fun F H => BPost X.K X.mg W F H σ Q) gd q (fun _ _ _ z => z) (fun z => z) (fun F' H' r x z => z.ext x) fun d v F' H' _ x g' r z => ?_
  cases e1 : isT T d with
  | ok d' => rw [e1] at z; exact ⟨F', d, v, d', rfl, g'.sub, r, e1, fun y hy => z y F' H' (.refl g'.sub) hy⟩
  | ex c ns ds =>
    unfold isT at e1
    split at e1
    · split at e1
      · cases e1
      · split at e1 <;> cases e1
    · cases e1
  | no => rw [e1] at z; exact z.elim
end
end Mp

namespace Mp
open PySem PySem.Spec PyProof.Rows L2

/-! ### targets that are tuples -/
def tGs (K : PySem.W.Frag) (mg : Str → Option Value) (ws : List Nat) (g : List D → Rho → R Rho) : TGs := fun vs σ H Q => ∃ F ρ ds F0 H0, Stt K mg F0 H0 F H ρ σ ∧ Reps K mg F ds vs ∧ match g ds ρ with
  | .ok ρ' => ∀ σ', Stt K mg F0 H0 F H ρ' σ' → (∀ vs : List Nat, (∀ i ∈ ws, i ∈ vs) → wipe σ' vs = wipe σ vs) → Q σ' H
  | _ => False
abbrev MGs (X : Cx) (ts : List Expr) (ws : List Nat) (g : List D → Rho → R Rho) : Prop := PGs X ts (tGs X.K X.mg ws g)
@[simp] def gNl : List D → Rho → R Rho := fun ds ρ => match ds with | [] => .ok ρ | _ => .no
@[simp] def gCn (g : D → Rho → R Rho) (gs : List D → Rho → R Rho) : List D → Rho → R Rho := fun ds ρ => match ds with | d :: ds => (g d ρ).bind (gs ds) | [] => .no
@[simp] def gTp (n : Nat) (gs : List D → Rho → R Rho) : D → Rho → R Rho := fun d ρ => match d with
  | .tup ds => if ds.length = n then gs ds ρ else .no
  | .lst ds => if ds.length = n then gs ds ρ else .no
  | _ => .no
theorem pgs_imp {X : Cx} {ts : List Expr} {t t' : TGs} (h : PGs X ts t) (i : ∀ v σ H Q, t' v σ H Q → t v σ H Q) : PGs X ts t' := ⟨fun pins s σ H v u Q I r q => h.run pins s σ H v u Q I r (i v σ H Q q)⟩
theorem pg_or {X : Cx} {e : Expr} {t u : TG} (h : PG X e t) (h' : PG X e u) : PG X e (fun v σ H Q => t v σ H Q ∨ u v σ H Q) := ⟨fun pins s σ H v w Q I r q => q.elim (h.run pins s σ H v w Q I r) (h'.run pins s σ H v w Q I r)⟩
section
variable {X : Cx} {e : Expr} {es : List Expr} {g : D → Rho → R Rho} {gs : List D → Rho → R Rho} {ws us : List Nat} {pos : Pos} {n : Nat}
theorem mgs_nil : MGs X [] [] gNl := pgs_imp pgs_nil fun vs σ H Q ⟨F, ρ, ds, F0, H0, st, r, q⟩ => by
  cases ds with
  | nil => exact ⟨reps_nil.mp r, q σ st fun _ _ => rfl⟩
  | cons d ds => exact q.elim
theorem mgs_cons (h1 : MG X e ws g) (h2 : MGs X es us gs) (hs : (assignEach (e :: es) X.env).map (·.2) = assign e X.env :: (assignEach es X.env).map (·.2) := by rfl) : MGs X (e :: es) (ws ++ us) (gCn g gs) := by
  refine pgs_imp (pgs_cons h1 h2 hs) fun vs σ H Q ⟨F, ρ, ds, F0, H0, st, r, q⟩ => ?_
  cases ds with
  | nil => exact q.elim
  | cons d ds =>
    obtain ⟨v, vr, rfl, r1, r2⟩ := reps_cons.mp r
    refine ⟨v, vr, rfl, F, ρ, d, F0, H0, st, r1, ?_⟩
    have q : (match (g d ρ).bind (gs ds) with
      | .ok ρ' => ∀ σ', Stt X.K X.mg F0 H0 F H ρ' σ' → (∀ vs : List Nat, (∀ i ∈ ws ++ us, i ∈ vs) → wipe σ' vs = wipe σ vs) → Q σ' H
      | _ => False) := q
    cases e1 : g d ρ with
    | ok ρ1 =>
      rw [e1] at q
      intro σ1 st1 w1
      refine ⟨F, ρ1, ds, F0, H0, st1, r2, ?_⟩
      have q : (match gs ds ρ1 with
        | .ok ρ' => ∀ σ', Stt X.K X.mg F0 H0 F H ρ' σ' → (∀ vs : List Nat, (∀ i ∈ ws ++ us, i ∈ vs) → wipe σ' vs = wipe σ vs) → Q σ' H
        | _ => False) := q
      cases e2 : gs ds ρ1 with
      | ok ρ2 =>
        rw [e2] at q
        exact fun σ2 st2 w2 => q σ2 st2 fun vs h => (w2 vs fun i hi => h i (List.mem_append_right _ hi)).trans (w1 vs fun i hi => h i (List.mem_append_left _ hi))
      | _ => rw [e2] at q; exact q
    | _ => rw [e1] at q; exact q
theorem mg_tup {k : Nat} (hc : X.calm = true) (h : MGs X es ws gs) (hn : (assignEach es X.env).length = n := by rfl) (hst : (assignEach es X.env).findIdx? (·.1) = none := by rfl) : MG X (.Tuple es k pos) ws (gTp n gs) := by
  refine pg_imp (pg_or (L2.pg_tup hc h hn hst) (pg_lst hc h hn hst)) fun v σ H Q ⟨F, ρ, d, F0, H0, st, r, q⟩ => ?_
  cases d with
  | tup ds =>
    have q : (match (if ds.length = n then gs ds ρ else R.no) with
      | .ok ρ' => ∀ σ', Stt X.K X.mg F0 H0 F H ρ' σ' → (∀ vs : List Nat, (∀ i ∈ ws, i ∈ vs) → wipe σ' vs = wipe σ vs) → Q σ' H
      | _ => False) := q
    by_cases hl : ds.length = n
    · rw [if_pos hl] at q
      obtain ⟨a, vs, rfl, la, rs⟩ := rep_tup.mp r
      exact .inl ⟨a, vs, rfl, la.sq st.good.sub, by rw [rs.length]; exact hl, F, ρ, ds, F0, H0, st, rs, q⟩
    · rw [if_neg hl] at q; exact q.elim
  | lst ds =>
    have q : (match (if ds.length = n then gs ds ρ else R.no) with
      | .ok ρ' => ∀ σ', Stt X.K X.mg F0 H0 F H ρ' σ' → (∀ vs : List Nat, (∀ i ∈ ws, i ∈ vs) → wipe σ' vs = wipe σ vs) → Q σ' H
      | _ => False) := q
    by_cases hl : ds.length = n
    · rw [if_pos hl] at q
      obtain ⟨a, vs, rfl, la, rs⟩ := rep_lst.mp r
      exact .inr ⟨a, vs, rfl, la.sq st.good.sub, by rw [rs.length]; exact hl, F, ρ, ds, F0, H0, st, rs, q⟩
    · rw [if_neg hl] at q; exact q.elim
  | _ => exact q.elim
end
/-- target = value -/
@[simp] def sAsg (f : Rho → R Sl) (g : D → Rho → R Rho) : Sem := fun _ ρ => rOut ρ (toV f ρ) fun d => match g d ρ with | .ok ρ' => .nx ρ' | _ => .no
section
variable {X : Cx} {W : WX} {e tg : Expr} {es : List Expr} {m : Rho → R Sl} {f h : Rho → R D} {g : D → Rho → R Rho} {ws : List Nat} {pos : Pos}
theorem ms_asg (he : ME X W e m) (hg : MG X tg ws g) (hs : swapsWithSole [tg] e pos.line X.env = pure false := by rfl) (hw : swappedStores [tg] e X.env = pure none := by rfl)
    (h1 : (assignEach [tg] X.env).map (·.2) = [assign tg X.env] := by rfl) : MS X W (.Assign [tg] e pos) (sAsg m g) := by
  refine ps_imp (ps_asg he hg hs hw h1) fun D σ H ⟨n, F, ρ, F0, H0, st, q⟩ => ?_
  have q' : SPost X.K X.mg W F0 H0 F H D (rOut ρ (m ρ) fun s => match slD s with | .ok d => (match g d ρ with | .ok ρ' => .nx ρ' | _ => .no) | _ => .no) := by
    unfold sAsg toV at q
    cases e1 : m ρ with
    | ok s => rw [e1] at q; cases s <;> exact q
    | ex c ns ds => rw [e1] at q; exact q
    | no => rw [e1] at q; exact q
  refine tM_out st q' fun s v F' H' _ x st' r z => ?_
  obtain ⟨d, F2, e2, x2, r2⟩ := freeze_res x r
  rw [e2] at z
  have st2 := st.grow x2
  refine ⟨F2, ρ, d, F0, H0, st2, r2, ?_⟩
  have z : SPost X.K X.mg W F0 H0 F' H' D (match g d ρ with | .ok ρ' => .nx ρ' | _ => .no) := z
  have sp : Step F' H' F2 H' ∨ True := .inr trivial
  -- what is wanted is wanted from the start on
  have z0 : SPost X.K X.mg W F0 H0 F H D (match g d ρ with | .ok ρ' => .nx ρ' | _ => .no) := by
    rename_i em _
    rw [em] at q'
    have q' : SPost X.K X.mg W F0 H0 F H D (match slD s with | .ok d => (match g d ρ with | .ok ρ' => .nx ρ' | _ => .no) | _ => .no) := q'
    rw [e2] at q'
    exact q'
  have z2 := z0.step (x2.step st.good.sub)
  cases e3 : g d ρ with
  | ok ρ' =>
    rw [e3] at z2
    exact fun σ' st3 _ => z2 σ' F2 H' .refl st3
  | ex c ns ds => rw [e3] at z2; exact z2
  | no => rw [e3] at z2; exact z2
end

/-! ### comprehensions -/
/-- as Gives, while all that stood stands (a comprehension's turns) -/
def GivesX (K : PySem.W.Frag) (mg : Str → Option Value) (J : It) (F H : Hp) (ds : List D) : Prop :=
  ∀ F1 H1, Ext F H F1 H1 → ∀ i, (i < ds.length → J.go i H1 ∧ ∀ x H', J.yld i H1 x H' → ∃ F' d, ds[i]? = some d ∧ Ext F1 H1 F' H' ∧ Rep K mg F' d x) ∧ (ds.length ≤ i → J.stop i H1)
theorem Gives.x {K : PySem.W.Frag} {mg : Str → Option Value} {J : It} {F H : Hp} {ds : List D} (g : Gives K mg J F H ds) (sb : Sub F H) : GivesX K mg J F H ds := fun F1 H1 x => g F1 H1 x.sub (x.step sb)
def JPost (K : PySem.W.Frag) (mg : Str → Option Value) (W : WX) (F H : Hp) (σ : SS) (Q : It → Hp → Prop) : R (List D) → Prop
  | .ok ds => ∀ J F' H', Ext F H F' H' → GivesX K mg J F' H' ds → Q J H'
  | .ex c ns ds => XPost K mg W F H σ c ns ds
  | .no => False
def tJ (K : PySem.W.Frag) (mg : Str → Option Value) (W : WX) (f : Rho → R (List D)) : TI := fun σ H Q => ∃ F ρ, GoodM K mg F H ρ σ ∧ JPost K mg W F H σ Q (f ρ)
abbrev MJ (X : Cx) (W : WX) (tg it : Expr) (f : Rho → R (List D)) : Prop := PI X tg it (tJ X.K X.mg W f)
@[simp] def seqV (f : Rho → R D) : Rho → R (List D) := fun ρ => (f ρ).bind slLst
section
variable {X : Cx} {W : WX} {e tg it : Expr} {f : Rho → R D} {fs : Rho → R (List D)}
theorem mj_of (h : MI X W tg it fs) : MJ X W tg it fs := pi_imp h fun σ H Q ⟨F, ρ, g, q⟩ => by
  refine ⟨F, ρ, g, ?_⟩
  cases e : fs ρ with
  | ok ds => rw [e] at q; exact fun J F' H' x gv => q J F' H' x (gv.x x.sub)
  | ex c ns ds => rw [e] at q; exact q
  | no => rw [e] at q; exact q
theorem givesX_list {K : PySem.W.Frag} {mg : Str → Option Value} {F H : Hp} {a : Addr} {vs : List V} {ds : List D} (h : Rd H a (.lst vs)) (r : Reps K mg F ds vs) : GivesX K mg (Itl K a) F H ds := fun F1 H1 x i => by
  have hq : SqL K H1 a vs := .inl (Rd.keep x.keep h)
  have hl := r.length
  refine ⟨fun hi => ⟨⟨vs, vs[i], hq, List.getElem?_eq_getElem (by omega)⟩, fun y H' hy => ?_⟩, fun hi => ⟨vs, hq, by omega⟩⟩
  obtain ⟨rfl, hy⟩ := hy
  obtain ⟨d, h1, h2⟩ := r.get' (hy vs hq)
  exact ⟨F1, d, h1, .refl x.sub, h2.mono x.frz⟩
/-- a list, a tuple, a text that is looked at is walked in a comprehension -/
theorem mj_seq (he : MV X W e f) : MJ X W tg e (seqV f) := by
  refine pi_imp (pi_or (pi_list he) (pi_or (pi_tup he) (pi_str he))) fun σ H Q ⟨F, ρ, g, q⟩ => ?_
  unfold seqV at q
  cases e1 : f ρ with
  | ex c ns ds => rw [e1] at q; exact .inl ⟨F, ρ, g, by rw [e1]; exact q⟩
  | no => rw [e1] at q; exact q.elim
  | ok d =>
    rw [e1, R.bind_ok] at q
    cases d with
    | lst ds =>
      refine .inl ⟨F, ρ, g, ?_⟩
      rw [e1]
      intro v F1 H1 x1 r1
      obtain ⟨a, vs, ev, la, rs⟩ := r1.lstR x1.sub
      exact ⟨a, ev, ⟨vs, .inl la⟩, q _ F1 H1 x1 (givesX_list la rs)⟩
    | sq is =>
      refine .inl ⟨F, ρ, g, ?_⟩
      rw [e1]
      intro v F1 H1 x1 r1
      obtain ⟨a, ev, la⟩ := r1.sq x1.sub
      exact ⟨a, ev, ⟨_, la.sq x1.sub⟩, q _ F1 H1 x1 ((gives_sq la).x x1.sub)⟩
    | tup ds =>
      refine .inr (.inl ⟨F, ρ, g, ?_⟩)
      rw [e1]
      intro v F1 H1 x1 r1
      rcases r1 with r1 | ⟨_, _, o⟩
      · obtain ⟨a, vs, ev, la, rs⟩ := rep_tup.mp r1
        exact ⟨a, ev, ⟨vs, la.sq x1.sub⟩, q _ F1 H1 x1 ((gives_tup la rs).x x1.sub)⟩
      · exact o.elim
    | str z =>
      refine .inr (.inr ⟨F, ρ, g, ?_⟩)
      rw [e1]
      intro v F1 H1 x1 r1
      exact ⟨z, held_str.mp r1, q _ F1 H1 x1 (gives_str.x x1.sub)⟩
    | _ => exact q.elim
end
def wipeR (ρ : Rho) : List Nat → Rho
  | [] => ρ
  | v :: vs => (wipeR ρ vs).set v .un
theorem wipeR_len (ρ : Rho) : ∀ vs, (wipeR ρ vs).length = ρ.length
  | [] => rfl
  | v :: vs => by unfold wipeR; rw [List.length_set, wipeR_len ρ vs]
theorem wipeR_get {ρ : Rho} {σ : SS} (hl : ρ.length = σ.length) {i : Nat} {t : Sl} (ht : t ≠ .un) : ∀ {vs : List Nat}, (wipeR ρ vs)[i]? = some t → ρ[i]? = some t ∧ (wipe σ vs)[i]? = σ[i]?
  | [], h => ⟨h, rfl⟩
  | v :: vs, h => by
    unfold wipeR at h
    unfold wipe
    by_cases hi : v = i
    · subst hi
      by_cases hv : v < (wipeR ρ vs).length
      · rw [List.getElem?_set_self hv] at h; cases h; exact (ht rfl).elim
      · rw [List.getElem?_eq_none (by simpa using hv)] at h; cases h
    · rw [List.getElem?_set_ne hi] at h
      rw [List.getElem?_set_ne hi]
      exact wipeR_get hl ht h
theorem GoodM.wipe {K : PySem.W.Frag} {mg : Str → Option Value} {F H : Hp} {ρ : Rho} {σ : SS} (g : GoodM K mg F H ρ σ) (vs : List Nat) : GoodM K mg F H (wipeR ρ vs) (L2.wipe σ vs) where
  sub := g.sub
  len := by rw [wipeR_len, wipe_length, g.len]
  fz := fun i d e => by
    obtain ⟨h1, h2⟩ := wipeR_get (t := .fz d) g.len (fun z => nomatch z) e
    rw [h2]; exact g.fz i d h1
  ow := fun i d e => by
    obtain ⟨h1, h2⟩ := wipeR_get (t := .ow d) g.len (fun z => nomatch z) e
    rw [h2]; exact g.ow i d h1
  inj := fun i j d e p a b c1 c2 => by
    obtain ⟨a1, a2⟩ := wipeR_get (t := .ow d) g.len (fun z => nomatch z) a
    obtain ⟨b1, b2⟩ := wipeR_get (t := .ow e) g.len (fun z => nomatch z) b
    rw [a2] at c1; rw [b2] at c2
    exact g.inj i j d e p a1 b1 c1 c2
theorem GoodM.stt {K : PySem.W.Frag} {mg : Str → Option Value} {F H : Hp} {ρ : Rho} {σ : SS} (g : GoodM K mg F H ρ σ) : Stt K mg (fun _ => none) (fun _ => none) F H ρ σ :=
  ⟨g, ⟨g.sub, fun _ _ e => (nomatch e), fun _ _ e => (nomatch e), fun _ _ _ => .inr rfl⟩, fun _ _ _ _ _ => rfl⟩
theorem wipe_at {u : Nat} : ∀ (vs : List Nat), u ∈ vs → ∀ σ : SS, u < σ.length → (L2.wipe σ vs)[u]? = some none
  | w :: ws, h, σ, hs => by
    unfold L2.wipe
    by_cases e : w = u
    · subst e; exact List.getElem?_set_self (by rw [wipe_length]; exact hs)
    · rw [List.getElem?_set_ne e]; exact wipe_at ws ((List.mem_cons.mp h).resolve_left (fun z => e z.symm)) σ hs
theorem wipe_wipe (σ : SS) (vs : List Nat) : ∀ us : List Nat, (∀ i ∈ us, i ∈ vs) → L2.wipe (L2.wipe σ vs) us = L2.wipe σ vs
  | [], _ => rfl
  | u :: us, hu => by
    have ih := wipe_wipe σ vs us fun i hi => hu i (List.mem_cons_of_mem _ hi)
    have e : L2.wipe (L2.wipe σ vs) (u :: us) = (L2.wipe (L2.wipe σ vs) us).set u none := rfl
    rw [e, ih]
    apply List.ext_getElem?
    intro j
    by_cases hj : u = j
    · subst hj
      by_cases hs : u < σ.length
      · rw [List.getElem?_set_self (by rw [wipe_length]; exact hs), wipe_at vs (hu u List.mem_cons_self) σ hs]
      · rw [List.getElem?_eq_none (by rw [List.length_set, wipe_length]; omega), List.getElem?_eq_none (by rw [wipe_length]; omega)]
    · rw [List.getElem?_set_ne hj]
/-- nothing is raised within -/
def nox {α : Type} : R α → R α
  | .ok a => .ok a
  | _ => .no
@[simp] theorem nox_ok {α : Type} {a : α} : nox (.ok a) = .ok a := rfl
abbrev W0 : WX := fun _ _ _ _ => False
/-- the items of a comprehension -/
def lcL (g : D → Rho → R Rho) (c : Rho → R Bool) (f : Rho → R Sl) (ρ : Rho) : List D → R (List D)
  | [] => .ok []
  | d :: ds => (nox (g d ρ)).bind fun ρ1 => (nox (c ρ1)).bind fun b => if b then (nox (toV f ρ1)).bind fun x => (lcL g c f ρ ds).bind fun xs => .ok (x :: xs) else lcL g c f ρ ds
@[simp] def lcF (it : Rho → R (List D)) (g : D → Rho → R Rho) (c : Rho → R Bool) (f : Rho → R Sl) (vs : List Nat) : Rho → R Sl := fun ρ => (it ρ).bind fun ds => if ds.length ≤ sizeLine then (lcL g c f (wipeR ρ vs) ds).bind fun xs => .ok (.ow (.lst xs)) else .no
@[simp] def yesT : Rho → R Bool := fun _ => .ok true
theorem lcL_nx {g c f ρ} : ∀ ds : List D, NoEx (lcL g c f ρ ds)
  | [] => fun _ _ _ h => nomatch h
  | d :: ds => fun cc ns es h => by
    unfold lcL at h
    cases e1 : g d ρ with
    | ok ρ1 =>
      rw [e1, nox_ok, R.bind_ok] at h
      cases e2 : c ρ1 with
      | ok b =>
        rw [e2, nox_ok, R.bind_ok] at h
        cases b with
        | true =>
          rw [if_pos rfl] at h
          cases e3 : toV f ρ1 with
          | ok x =>
            rw [e3, nox_ok, R.bind_ok] at h
            cases e4 : lcL g c f ρ ds with
            | ok xs => rw [e4] at h; cases h
            | ex c' ns' ds' => exact lcL_nx ds _ _ _ e4
            | no => rw [e4] at h; cases h
          | ex c' ns' ds' => rw [e3] at h; cases h
          | no => rw [e3] at h; cases h
        | false => rw [if_neg Bool.false_ne_true] at h; exact lcL_nx ds _ _ _ h
      | ex c' ns' ds' => rw [e2] at h; cases h
      | no => rw [e2] at h; cases h
    | ex c' ns' ds' => rw [e1] at h; cases h
    | no => rw [e1] at h; cases h
theorem lcL_cons {g c f ρ d ds xs} (h : lcL g c f ρ (d :: ds) = .ok xs) : ∃ ρ1 b, g d ρ = .ok ρ1 ∧ c ρ1 = .ok b ∧ ((b = true ∧ ∃ x ys, toV f ρ1 = .ok x ∧ lcL g c f ρ ds = .ok ys ∧ xs = x :: ys) ∨ (b = false ∧ lcL g c f ρ ds = .ok xs)) := by
  unfold lcL at h
  cases e1 : g d ρ with
  | ok ρ1 =>
    rw [e1, nox_ok, R.bind_ok] at h
    cases e2 : c ρ1 with
    | ok b =>
      rw [e2, nox_ok, R.bind_ok] at h
      refine ⟨ρ1, b, rfl, e2, ?_⟩
      cases b with
      | true =>
        rw [if_pos rfl] at h
        cases e3 : toV f ρ1 with
        | ok x =>
          rw [e3, nox_ok, R.bind_ok] at h
          cases e4 : lcL g c f ρ ds with
          | ok ys => rw [e4] at h; cases h; exact .inl ⟨rfl, x, ys, rfl, rfl, rfl⟩
          | ex c' ns' ds' => rw [e4] at h; cases h
          | no => rw [e4] at h; cases h
        | ex c' ns' ds' => rw [e3] at h; cases h
        | no => rw [e3] at h; cases h
      | false => rw [if_neg Bool.false_ne_true] at h; exact .inr ⟨rfl, h⟩
    | ex c' ns' ds' => rw [e2] at h; cases h
    | no => rw [e2] at h; cases h
  | ex c' ns' ds' => rw [e1] at h; cases h
  | no => rw [e1] at h; cases h
def tP (K : PySem.W.Frag) (mg : Str → Option Value) (W : WX) (c : Rho → R Bool) : TT := tT K mg W c
abbrev MTs (X : Cx) (ifs : List Expr) (c : Rho → R Bool) : Prop := PTs X ifs (tT X.K X.mg W0 c)
theorem mts_nil {X : Cx} : MTs X [] yesT := ⟨fun pins s σ H Q I ⟨F, ρ, g, q⟩ => pts_nil.run pins s σ H Q I (q F H (.refl g.sub))⟩
theorem mts_one {X : Cx} {e : Expr} {c : Rho → R Bool} (h : MT X W0 e c) : MTs X [e] c := pts_one h
/-- the comprehension's reading -/
theorem lc_read {K : PySem.W.Frag} {mg : Str → Option Value} {W : WX} {it : Rho → R (List D)} {g : D → Rho → R Rho} {c : Rho → R Bool} {f : Rho → R Sl} {ws vs : List Nat} (hws : ∀ i ∈ ws, i ∈ vs) {σ : SS} {H : Hp} {Q : VK} (h : tM K mg W (lcF it g c f vs) σ H Q) :
    tLc (tJ K mg W it) (tG K mg ws g) (tT K mg W0 c) (tM K mg W0 f) vs σ H Q := by
  obtain ⟨F, ρ, gd, q⟩ := h
  refine ⟨F, ρ, gd, ?_⟩
  unfold lcF at q
  cases e1 : it ρ with
  | ex c ns ds => rw [e1] at q; exact q
  | no => rw [e1] at q; exact q
  | ok ds =>
    rw [e1, R.bind_ok] at q
    by_cases hlen : ds.length ≤ sizeLine
    · rw [if_pos hlen] at q
      cases e2 : lcL g c f (wipeR ρ vs) ds with
      | ex c ns es => exact (lcL_nx ds _ _ _ e2).elim
      | no => rw [e2] at q; exact q.elim
      | ok xs =>
        rw [e2, R.bind_ok] at q
        intro J F1 H1 x1 gv D hD
        have sb1 := x1.sub
        have nF : F1 D = none := sb1.none hD
        refine ⟨fun i m H2 => m = ds.length - i ∧ i ≤ ds.length ∧ ∃ F2 us outs rest, Ext F1 H1 F2 H2 ∧ F2 D = none ∧ H2 D = some (.lst us) ∧ Reps K mg F2 outs us ∧ outs.length ≤ i ∧ lcL g c f (wipeR ρ vs) (ds.drop i) = .ok rest ∧ outs ++ rest = xs,
          ⟨ds.length, rfl, Nat.zero_le _, F1, [], [], xs, ext_new sb1 hD (fun _ q => nomatch q), nF, upd_same, reps_nil.mpr rfl, Nat.zero_le _, by rw [List.drop_zero]; exact e2, rfl⟩, ?_⟩
        rintro i m H2 ⟨rfl, hi, F2, us, outs, rest, x2, nD, hH2, ru, hol, hrest, hx⟩
        by_cases hlt : i < ds.length
        · right
          obtain ⟨go, yl⟩ := (gv F2 H2 x2 i).1 hlt
          refine ⟨go, fun H3 => i + 1 ≤ ds.length ∧ ∃ F3 us outs rest, Ext F1 H1 F3 H3 ∧ F3 D = none ∧ H3 D = some (.lst us) ∧ Reps K mg F3 outs us ∧ outs.length ≤ i + 1 ∧ lcL g c f (wipeR ρ vs) (ds.drop (i + 1)) = .ok rest ∧ outs ++ rest = xs, fun H3 h3 => ⟨_, by omega, rfl, h3⟩, fun xv H3 hy => ?_⟩
          obtain ⟨F3, d, hd, x3, r3⟩ := yl xv H3 hy
          have ed : ds.drop i = d :: ds.drop (i + 1) := by
            rw [List.drop_eq_getElem_cons hlt]
            have : ds[i] = d := by rw [List.getElem?_eq_getElem hlt] at hd; exact Option.some.inj hd
            rw [this]
          rw [ed] at hrest
          obtain ⟨ρ1, b, eg, ec, hcase⟩ := lcL_cons hrest
          have nH1 : ∀ {F' H'}, Ext F2 H2 F' H' → F' D = none ∧ H' D = some (.lst us) := fun {F' H'} x => by
            refine ⟨?_, x.keep _ _ hH2⟩
            cases q : F' D with
            | none => rfl
            | some u =>
              rcases x.new D u q with z | z
              · rw [nD] at z; cases z
              · rw [hH2] at z; cases z
          have good3 : GoodM K mg F3 H3 (wipeR ρ vs) (L2.wipe σ vs) := ((gd.ext x1).ext (x2.trans x3)).wipe vs
          refine ⟨F3, wipeR ρ vs, d, _, _, good3.stt, r3, ?_⟩
          rw [eg]
          intro σ4 st4 hw4
          refine ⟨?_, F3, ρ1, st4.good, ?_⟩
          · have hw := hw4 vs hws
            rw [hw, wipe_wipe σ vs vs fun _ h => h]
          · rw [ec]
            intro F5 H5 x5
            have x25 := x3.trans x5
            rcases hcase with ⟨rfl, y, ys, ey, eys, hyx⟩ | ⟨rfl, eys⟩
            · rw [if_pos rfl]
              refine ⟨F5, ρ1, st4.good.ext x5, ?_⟩
              unfold toV at ey
              cases em : f ρ1 with
              | ex c ns es => rw [em] at ey; cases ey
              | no => rw [em] at ey; cases ey
              | ok s =>
                rw [em, R.bind_ok] at ey
                intro yv F6 H6 x6 r6
                obtain ⟨d', F7, e7, x7, r7⟩ := freeze_res x6 r6
                rw [ey] at e7; cases e7
                have x27 := x25.trans x7
                obtain ⟨n7, h7⟩ := nH1 x27
                have hul : us.length < sizeLine := by rw [ru.length]; omega
                refine ⟨us, h7, hul, hlt, F7, us ++ [yv], outs ++ [y], ys, ?_, n7, upd_same, (ru.mono x27.frz).append (Reps.one r7), by rw [List.length_append, List.length_singleton]; omega, eys, by rw [List.append_assoc, List.singleton_append, ← hyx]; exact hx⟩
                have x17 := x2.trans x27
                refine ⟨⟨fun a w e => ?_, fun a ws' e => ?_⟩, fun a o e => ?_, x17.frz, x17.new⟩
                · exact Rd.keep (fun b o q => q) (by
                    rcases x17.sub.rd a w e with z | ⟨o, z⟩
                    · exact .inl (by rw [upd_ne (ne_of_none e n7)]; exact z)
                    · exact .inr ⟨o, by rw [upd_ne (ne_of_none e n7)]; exact z⟩)
                · by_cases z : a = D
                  · subst z; rw [upd_same] at e; cases e
                  · rw [upd_ne z] at e; exact x17.sub.tup a ws' e
                · rw [upd_ne (ne_of_none e hD)]; exact x17.keep a o e
            · rw [if_neg Bool.false_ne_true]
              obtain ⟨n5, h5⟩ := nH1 x25
              exact ⟨hlt, F5, us, outs, rest, x2.trans x25, n5, h5, ru.mono x25.frz, by omega, eys, hx⟩
        · left
          have ei : i = ds.length := by omega
          subst ei
          refine ⟨(gv F2 H2 x2 _).2 (Nat.le_refl _), ?_⟩
          rw [List.drop_length] at hrest
          cases hrest
          rw [List.append_nil] at hx
          subst hx
          exact q (.ref D) F2 H2 (x1.trans x2) ⟨D, rfl, x1.none hD, nD, us, hH2, ru⟩
    · rw [if_neg hlen] at q; exact q.elim
section
variable {X : Cx} {W : WX} {elt tg iter : Expr} {ifs : List Expr} {scope : Scope} {own : List (Str × Nat)} {pos : Pos} {it : Rho → R (List D)} {g : D → Rho → R Rho} {c : Rho → R Bool} {f : Rho → R Sl} {ws : List Nat}
theorem me_lc (own : List (Str × Nat)) (hc : X.calm = true) (hN : X.N.Nodup) (hi : MJ X W tg iter it) (ok : BlkOk X.N X.env.scope scope own)
    (hg : ∀ (s : Shared) (H : Hp) (C : Addr) (cl : List (Str × Addr)) (fp : List Addr), MG (X.blk s H scope (compEnvC scope cl C X.env) fp) tg ws g) (ht : ∀ (s : Shared) (H : Hp) (C : Addr) (cl : List (Str × Addr)) (fp : List Addr), MTs (X.blk s H scope (compEnvC scope cl C X.env) fp) ifs c)
    (he : ∀ (s : Shared) (H : Hp) (C : Addr) (cl : List (Str × Addr)) (fp : List Addr), ME (X.blk s H scope (compEnvC scope cl C X.env) fp) W0 elt f) (hws : ∀ i ∈ ws, i ∈ own.map (·.2) := by decide) (hs : ∀ x, foldedSetIterable iter X.env x = pure x := by intro _; rfl) :
    ME X W (.ListComp elt [⟨tg, iter, ifs, 0⟩] scope pos) (lcF it g c f (own.map (·.2))) :=
  pe_imp (pe_lc hc hN hi ok hg ht he hs) fun σ H Q h => lc_read hws h
theorem ms_setLc {i : Nat} {y : Str} {py spos : Pos} (own : List (Str × Nat)) (hc : X.calm = true) (hN : X.N.Nodup) (hi : MJ X W tg iter it) (ok : BlkOk X.N X.env.scope scope own)
    (hg : ∀ (s : Shared) (H : Hp) (C : Addr) (cl : List (Str × Addr)) (fp : List Addr), MG (X.blk s H scope (compEnvC scope cl C X.env) fp) tg ws g) (ht : ∀ (s : Shared) (H : Hp) (C : Addr) (cl : List (Str × Addr)) (fp : List Addr), MTs (X.blk s H scope (compEnvC scope cl C X.env) fp) ifs c)
    (he : ∀ (s : Shared) (H : Hp) (C : Addr) (cl : List (Str × Addr)) (fp : List Addr), ME (X.blk s H scope (compEnvC scope cl C X.env) fp) W0 elt f)
    (hsw : swapsWith (.ListComp elt [⟨tg, iter, ifs, 0⟩] scope pos) (some (.Name y py)) spos.line X.env = pure true) (hy : X.N[i]? = some y := by rfl) (hyl : X.env.scope.names.lookup y = some .local := by rfl) (hws : ∀ i ∈ ws, i ∈ own.map (·.2) := by decide) (hs : ∀ x, foldedSetIterable iter X.env x = pure x := by intro _; rfl) :
    MS X W (.Assign [.Name y py] (.ListComp elt [⟨tg, iter, ifs, 0⟩] scope pos) spos) (sOwn i (lcF it g c f (own.map (·.2)))) := by
  refine ps_imp (L2.ps_setLc (te := tM X.K X.mg W0 f) (g := tG X.K X.mg ws g) (tt := tT X.K X.mg W0 c) hc hN hy hyl hsw hi ok hg ht he hs) fun D σ H ⟨n, F, ρ, F0, H0, st, q⟩ => ?_
  refine lc_read (Q := fun x H1 => gName i x σ H1 D.nx) hws ?_
  refine tM_out st q fun s v F' H' _ xx st' r z => ?_
  exact z _ F' H' .refl (st.store xx r i)
theorem ms_setLcF {i : Nat} {y : Str} {py spos : Pos} (own : List (Str × Nat)) (hc : X.calm = true) (hN : X.N.Nodup) (hi : MJ X W tg iter it) (ok : BlkOk X.N X.env.scope scope own)
    (hg : ∀ (s : Shared) (H : Hp) (C : Addr) (cl : List (Str × Addr)) (fp : List Addr), MG (X.blk s H scope (compEnvC scope cl C X.env) fp) tg ws g) (ht : ∀ (s : Shared) (H : Hp) (C : Addr) (cl : List (Str × Addr)) (fp : List Addr), MTs (X.blk s H scope (compEnvC scope cl C X.env) fp) ifs c)
    (he : ∀ (s : Shared) (H : Hp) (C : Addr) (cl : List (Str × Addr)) (fp : List Addr), ME (X.blk s H scope (compEnvC scope cl C X.env) fp) W0 elt f)
    (hsw : swapsWith (.ListComp elt [⟨tg, iter, ifs, 0⟩] scope pos) (some (.Name y py)) spos.line X.env = pure true) (hy : X.N[i]? = some y := by rfl) (hyl : X.env.scope.names.lookup y = some .local := by rfl) (hws : ∀ i ∈ ws, i ∈ own.map (·.2) := by decide) (hs : ∀ x, foldedSetIterable iter X.env x = pure x := by intro _; rfl) :
    MS X W (.Assign [.Name y py] (.ListComp elt [⟨tg, iter, ifs, 0⟩] scope pos) spos) (sSet i (lcF it g c f (own.map (·.2)))) := by
  refine ps_imp (L2.ps_setLc (te := tM X.K X.mg W0 f) (g := tG X.K X.mg ws g) (tt := tT X.K X.mg W0 c) hc hN hy hyl hsw hi ok hg ht he hs) fun D σ H ⟨n, F, ρ, F0, H0, st, q⟩ => ?_
  refine lc_read (Q := fun x H1 => gName i x σ H1 D.nx) hws ?_
  refine tM_out st q fun s v F' H' _ xx st' r z => ?_
  obtain ⟨F2, x2, r2, sp⟩ := freeze_any xx r
  exact z _ F2 H' sp (st.store x2 r2 i)

/-! ### found.append(e) -/
theorem ms_app (i : Nat) {x : Str} {e : Expr} {m : Rho → R Sl} {p1 apos pos cpos : Pos} (he : ME X W e m) (hN : X.N[i]? = some x := by rfl) (hv : Vis X.env.scope x := by first | exact Or.inl rfl | exact Or.inr (Or.inl rfl) | exact Or.inr (Or.inr rfl)) (hd : (x == ("__debug__" : Str)) = false := by decide)
    (hcd : (x == ("__classdict__" : Str)) = false := by decide) (hst : starEach [e] X.env = (false, eval e X.env) :: starEach [] X.env := by rfl)
    (hbase : attributeBase (.Name x p1) "append" X.env (eval (.Name x p1) X.env) = eval (.Name x p1) X.env := by rfl)
    (hfew : ((backTo cpos (starEach [e] X.env)).all (fun x => !x.1) && (backToKw cpos (keywordEach [] X.env)).all (fun x => x.1.isSome)
      && decide ([e].length + ([] : List Keyword).length + (if ([] : List Keyword).isEmpty then 0 else 1) < 30)) = true := by rfl)
    (hline : (apos.endLine == cpos.line) = true := by rfl) (hplain : (backTo cpos (starEach [] X.env)).any (·.1) = false := by rfl)
    (hs : swapsWith (.Call (.Attribute (.Name x p1) "append" apos) [e] [] cpos) none pos.line X.env = pure false := by rfl) :
    MS X W (.Expr (.Call (.Attribute (.Name x p1) "append" apos) [e] [] cpos) pos) (sApp i m) := by
  refine ps_imp (ps_expr (pe_bm PySem.F.plainAttrs_list PySem.F.slot_list_append PySem.F.type_list_append mt_append (pe_var hN hv hd hcd) (pa_cons he pa_nil hst) hbase hfew hline hst hplain) hs) fun D σ H ⟨n, F, ρ, F0, H0, st, q⟩ => ?_
  unfold sApp at q
  split at q
  · next ds e1 =>
    obtain ⟨p, h1, h2, vs, h3, h4⟩ := st.good.ow i _ e1
    refine ⟨_, h1, .inl ⟨rfl, vs, .inl (.inl h3)⟩, ?_⟩
    show tM X.K X.mg W m σ H fun y H1 => rAppend (.ref p) [y] H1 fun _ H2 => D.nx σ H2
    have q' : SPost X.K X.mg W F0 H0 F H D (rOut ρ (m ρ) fun s => match slD s with | .ok d => if ds.length < sizeLine then .nx (ρ.set i (.ow (.lst (ds ++ [d])))) else .no | _ => .no) := by
      unfold toV at q
      cases em : m ρ with
      | ok s => rw [em] at q; cases s <;> exact q
      | ex c ns es => rw [em] at q; exact q
      | no => rw [em] at q; exact q
    refine ⟨F, ρ, st.good, ?_⟩
    cases em : m ρ with
    | ex c ns es => rw [em] at q'; exact fun cl dx F' H' x r => q' cl dx σ F' H' (x.step st.good.sub) (st.grow x) r
    | no => rw [em] at q'; exact q'
    | ok s =>
      rw [em] at q'
      intro y F1 H1 x1 r1
      obtain ⟨d, F2, e2, x2, r2⟩ := freeze_res x1 r1
      have q2 : SPost X.K X.mg W F0 H0 F H D (match slD s with | .ok d => if ds.length < sizeLine then .nx (ρ.set i (.ow (.lst (ds ++ [d])))) else .no | _ => .no) := q'
      rw [e2] at q2
      have q2 : SPost X.K X.mg W F0 H0 F H D (if ds.length < sizeLine then .nx (ρ.set i (.ow (.lst (ds ++ [d])))) else .no) := q2
      by_cases hl : ds.length < sizeLine
      · rw [if_pos hl] at q2
        have st2 := st.grow x2
        have h5 := x2.keep _ _ h3
        refine ⟨p, vs, y, rfl, rfl, h5, by rw [h4.length]; exact hl, ?_⟩
        obtain ⟨st3, sp3⟩ := st2.write (u := .lst (vs ++ [y])) (d' := .lst (ds ++ [d])) e1 h1 ⟨_, upd_same, (h4.mono x2.frz).append (Reps.one r2)⟩ fun _ z => nomatch z
        exact q2 σ F2 _ ((x2.step st.good.sub).trans sp3) st3
      · rw [if_neg hl] at q2; exact q2.elim
  · exact q.elim
end

/-! ### name op= value -/
@[simp] def sAug (i : Nat) (g : D → D → R D) (f : Rho → R D) : Sem := fun _ ρ => rOut ρ ((rdV i ρ).bind fun a => (f ρ).bind fun b => (g a b).bind fun d => if flatD d then .ok d else .no) fun d => .nx (ρ.set i (.fz d))
section
variable {X : Cx} {W : WX} {e : Expr} {f : Rho → R D} {g : D → D → R D} {r : R2} {op : Operator} {pos : Pos}
theorem ms_aug (i : Nat) {x : Str} {pos' : Pos} (hN : X.N.Nodup) (ho : OpR X (inplaceOp op) r) (hsim : Sim2 X r g) (hn : ∀ a b, NoEx (g a b)) (he : MV X W e f) (hi : X.N[i]? = some x := by rfl) (hx : Loc X.env.scope x := by first | exact .inl rfl | exact .inr rfl) (hf : X.fn x = true ∨ X.env.scope.names.lookup x = some .local := by first | exact .inl rfl | exact .inr rfl | assumption) :
    MS X W (.AugAssign (.Name x pos') op e pos) (sAug i g f) := by
  refine ps_imp (ps_aug hN hi hx he (show PIp X op r from ho) hf) fun D σ H ⟨n, F, ρ, F0, H0, st, q⟩ => ?_
  unfold sAug at q
  have rd : ∀ a, rdV i ρ = .ok a → ∃ v, σ[i]? = some (some v) ∧ Held X.K X.mg F H a v := fun a h => by
    unfold rdV at h
    split at h
    · next d e1 =>
      cases h
      obtain ⟨v, h1, h2⟩ := st.good.fz i _ e1
      exact ⟨v, h1, .inl h2⟩
    · next d e1 =>
      cases h
      obtain ⟨p, h1, h2, h3⟩ := st.good.ow i _ e1
      exact ⟨_, h1, .inr ⟨p, rfl, h3⟩⟩
    · cases h
  cases ea : rdV i ρ with
  | ex c ns ds => unfold rdV at ea; split at ea <;> cases ea
  | no => rw [ea] at q; exact q.elim
  | ok a =>
    rw [ea, R.bind_ok] at q
    obtain ⟨v, h1, h2⟩ := rd a ea
    refine ⟨v, h1, F, ρ, st.good, ?_⟩
    cases eb : f ρ with
    | ex c ns ds => rw [eb] at q; exact fun cl dx F' H' x r => q cl dx σ F' H' (x.step st.good.sub) (st.grow x) r
    | no => rw [eb] at q; exact q
    | ok b =>
      rw [eb, R.bind_ok] at q
      intro w F1 H1 x1 r1
      cases eg : g a b with
      | ex c ns ds => exact (hn a b _ _ _ eg).elim
      | no => rw [eg] at q; exact q.elim
      | ok d =>
        rw [eg, R.bind_ok] at q
        cases fl : flatD d with
        | false => rw [fl] at q; exact q.elim
        | true =>
          rw [fl, if_pos rfl] at q
          have q : SPost X.K X.mg W F0 H0 F H D (.nx (ρ.set i (.fz d))) := q
          refine hsim F1 H1 a b v w d _ x1.sub (h2.ext x1) r1 eg fun y hy => ?_
          exact q _ F1 H1 (x1.step st.good.sub) ((st.grow x1).setFz i (held_flat fl hy))
end

/-! ### reversed(list) -/
section
variable {X : Cx} {W : WX} {e tg : Expr} {fs : Rho → R (List D)} {p pos : Pos}
@[simp] def revL (fs : Rho → R (List D)) : Rho → R (List D) := fun ρ => (fs ρ).bind fun
  | [.lst ds] => .ok ds.reverse
  | _ => .no
theorem mi_rev (hm : X.mg "reversed" = none) (ha : MA X W [e] fs) (hg : Gl X "reversed" := by rfl) (hs : starEach [e] X.env = [(false, eval e X.env)] := by rfl) : MI X W tg (.Call (.Name "reversed" p) [e] [] pos) (revL fs) := by
  refine pi_imp (pi_reversed hg hm ha hs) fun σ H Q t => ?_
  obtain ⟨F, ρ, g, q⟩ := tI_of t
  refine tA_then (P := fun F H => IPost X.K X.mg W F H σ Q) g q (fun _ _ _ z => z) (fun z => z) (fun F' H' r x z => z.ext x) fun d v F' H' _ x g' r z => ?_
  split at z
  · rename_i ds _
    obtain ⟨v1, r1, rfl, h1, h2⟩ := reps_cons.mp r
    rw [reps_nil.mp h2]
    obtain ⟨a, vs, rfl, la, rs⟩ := rep_lst.mp h1
    have hl := rs.length
    refine ⟨a, vs, rfl, la.sq x.sub, z _ F' H' (.refl x.sub) fun F1 H1 sb st i => ?_⟩
    have kp : ∀ a u, F' a = some u → F1 a = some u := fun a u e => (st a u e).1
    have hq : SqL X.K H1 a vs := (la.mono kp).sq sb
    refine ⟨fun hi => ?_, fun hi => show vs.length ≤ i by rw [List.length_reverse] at hi; omega⟩
    rw [List.length_reverse] at hi
    refine ⟨⟨by omega, vs, vs[vs.length - 1 - i], hq, List.getElem?_eq_getElem (by omega)⟩, fun y H' hy => ?_⟩
    obtain ⟨rfl, hy⟩ := hy
    obtain ⟨d, e1, e2⟩ := rs.get' (hy vs hq)
    refine ⟨F1, d, ?_, .refl sb, e2.mono kp⟩
    rw [List.getElem?_reverse hi, ← hl]
    exact e1
  · exact z.elim
end
end Mp

namespace Mp
open PySem PySem.Spec PyProof.Rows L2

theorem lenA_nil : ∀ (ρ : Rho) (ds : List D), nilA ρ = .ok ds → ds.length = 0 := fun _ _ h => by cases h; rfl
theorem lenA_cons {f : Rho → R D} {fs : Rho → R (List D)} {n : Nat} (h : ∀ ρ ds, fs ρ = .ok ds → ds.length = n) : ∀ ρ ds, consA f fs ρ = .ok ds → ds.length = n + 1 := fun ρ ds e => by
  unfold consA at e
  cases e1 : f ρ with
  | ok d =>
    rw [e1] at e
    cases e2 : fs ρ with
    | ok es => rw [e2] at e; cases e; rw [List.length_cons, h ρ es e2]
    | ex c ns es => rw [e2] at e; cases e
    | no => rw [e2] at e; cases e
  | ex c ns es => rw [e1] at e; cases e
  | no => rw [e1] at e; cases e
theorem gN_nx {i : Nat} : ∀ d ρ, NoEx (gN i d ρ) := fun d ρ c ns ds h => nomatch h
theorem gNl_nx : ∀ ds ρ, NoEx (gNl ds ρ) := fun ds ρ c ns es h => by cases ds <;> cases h
theorem gCn_nx {g : D → Rho → R Rho} {gs : List D → Rho → R Rho} (h1 : ∀ d ρ, NoEx (g d ρ)) (h2 : ∀ ds ρ, NoEx (gs ds ρ)) : ∀ ds ρ, NoEx (gCn g gs ds ρ) := fun ds ρ c ns es h => by
  cases ds with
  | nil => cases h
  | cons d ds =>
    have h : (g d ρ).bind (gs ds) = .ex c ns es := h
    cases e1 : g d ρ with
    | ok ρ1 => rw [e1] at h; exact h2 ds ρ1 _ _ _ h
    | ex c' ns' es' => exact h1 d ρ _ _ _ e1
    | no => rw [e1] at h; cases h
theorem gTp_nx {gs : List D → Rho → R Rho} {n : Nat} (h2 : ∀ ds ρ, NoEx (gs ds ρ)) : ∀ d ρ, NoEx (gTp n gs d ρ) := fun d ρ c ns es h => by
  unfold gTp at h
  split at h
  · split at h
    · exact h2 _ _ _ _ _ h
    · cases h
  · split at h
    · exact h2 _ _ _ _ _ h
    · cases h
  · cases h

/-! ### a, b = x, y -/
@[simp] def sPar (i j : Nat) (fs : Rho → R (List D)) : Sem := fun _ ρ => rOut ρ (fs ρ) fun
  | [d, e] => .nx ((ρ.set i (.fz d)).set j (.fz e))
  | _ => .no
section
variable {X : Cx} {W : WX}
theorem ms_par {i j : Nat} {x y : Str} {a b : Expr} {fs : Rho → R (List D)} {px py pt pos : Pos} {kt k2 pt2} (hc : X.calm = true) (hN : X.N.Nodup) (ha : MA X W [a, b] fs) (hi : X.N[i]? = some x := by rfl) (hj : X.N[j]? = some y := by rfl) (hij : i ≠ j := by decide)
    (hx : X.env.scope.names.lookup x = some .local := by rfl) (hy : X.env.scope.names.lookup y = some .local := by rfl)
    (hw : swappedStores [.Tuple [.Name x px, .Name y py] kt pt] (.Tuple [a, b] k2 pt2) X.env = pure (some [x, y]) := by rfl)
    (hs : swapsWithSole [.Tuple [.Name x px, .Name y py] kt pt] (.Tuple [a, b] k2 pt2) pos.line X.env = pure false := by rfl) :
    MS X W (.Assign [.Tuple [.Name x px, .Name y py] kt pt] (.Tuple [a, b] k2 pt2) pos) (sPar i j fs) := by
  refine ps_imp (L2.ps_par hc hN hi hj hij hx hy ha hw hs) fun D σ H ⟨n, F, ρ, F0, H0, st, q⟩ => ?_
  refine ⟨F, ρ, st.good, ?_⟩
  unfold sPar at q
  cases e1 : fs ρ with
  | ex c ns ds => rw [e1] at q; exact fun cl dx F' H' x r => q cl dx σ F' H' (x.step st.good.sub) (st.grow x) r
  | no => rw [e1] at q; exact q
  | ok ds =>
    rw [e1] at q
    intro vs F1 H1 x1 r1
    match ds, r1, q with
    | [d, e], r1, q =>
      obtain ⟨v, r, rfl, h1, h2⟩ := reps_cons.mp r1
      obtain ⟨w, r', rfl, h3, h4⟩ := reps_cons.mp h2
      rw [reps_nil.mp h4]
      exact ⟨v, w, rfl, q _ F1 H1 (x1.step st.good.sub) (((st.grow x1).setFz i h1).setFz j h3)⟩
    | [], _, q => exact q.elim
    | [_], _, q => exact q.elim
    | _ :: _ :: _ :: _, _, q => exact q.elim
end
/-- .. one or both kept as owned -/
def keepS (o : Bool) (s : Sl) : Sl := if o then s else frzL s
def sPar2 (i j : Nat) (o u : Bool) (m m' : Rho → R Sl) : Sem := fun _ ρ => rOut ρ (m ρ) fun s => rOut ρ (m' ρ) fun t => .nx ((ρ.set i (keepS o s)).set j (keepS u t))
theorem keep_any {K : PySem.W.Frag} {mg : Str → Option Value} {F H F' H' : Hp} {s : Sl} {v : V} (o : Bool) (x : Ext F H F' H') (r : Res K mg H F' H' s v) : ∃ F2, Ext F H F2 H' ∧ Res K mg H F2 H' (keepS o s) v ∧ Step F' H' F2 H' := by
  cases o with
  | true => exact ⟨F', x, r, .refl⟩
  | false => exact freeze_any x r
section
variable {X : Cx} {W : WX}
theorem ms_par2 {i j : Nat} (o u : Bool) {x y : Str} {a b : Expr} {m m' : Rho → R Sl} {px py pt pos : Pos} {kt k2 pt2} (hc : X.calm = true) (hN : X.N.Nodup) (ha : ME X W a m) (hb : ME X W b m') (hi : X.N[i]? = some x := by rfl) (hj : X.N[j]? = some y := by rfl) (hij : i ≠ j := by decide)
    (hx : X.env.scope.names.lookup x = some .local := by rfl) (hy : X.env.scope.names.lookup y = some .local := by rfl)
    (hs1 : starEach [a, b] X.env = (false, eval a X.env) :: starEach [b] X.env := by rfl) (hs2 : starEach [b] X.env = (false, eval b X.env) :: starEach [] X.env := by rfl)
    (hw : swappedStores [.Tuple [.Name x px, .Name y py] kt pt] (.Tuple [a, b] k2 pt2) X.env = pure (some [x, y]) := by rfl)
    (hs : swapsWithSole [.Tuple [.Name x px, .Name y py] kt pt] (.Tuple [a, b] k2 pt2) pos.line X.env = pure false := by rfl) :
    MS X W (.Assign [.Tuple [.Name x px, .Name y py] kt pt] (.Tuple [a, b] k2 pt2) pos) (sPar2 i j o u m m') := by
  refine ps_imp (L2.ps_par hc hN hi hj hij hx hy (pa_cons ha (pa_cons hb pa_nil hs2) hs1) hw hs) fun D σ H ⟨n, F, ρ, F0, H0, st, q⟩ => ?_
  show tM X.K X.mg W m σ H fun v H1 => tM X.K X.mg W m' σ H1 fun w H2 => ∃ v' w', [v, w] = [v', w'] ∧ D.nx ((σ.set i (some v')).set j (some w')) H2
  refine ⟨F, ρ, st.good, ?_⟩
  unfold sPar2 at q
  cases e1 : m ρ with
  | ex c ns ds => rw [e1] at q; exact fun cl dx F' H' x r => q cl dx σ F' H' (x.step st.good.sub) (st.grow x) r
  | no => rw [e1] at q; exact q
  | ok s =>
    rw [e1, rOut_ok] at q
    intro v F1 H1 x1 r1
    obtain ⟨F2, x2, r2, sp2⟩ := keep_any o x1 r1
    have st2 := st.store x2 r2 i
    refine ⟨F2, ρ, st.good.ext x2, ?_⟩
    cases e2 : m' ρ with
    | ex c ns ds => rw [e2] at q; exact fun cl dx F' H' x r => q cl dx σ F' H' ((x2.trans x).step st.good.sub) (st.grow (x2.trans x)) r
    | no => rw [e2] at q; exact q
    | ok t =>
      rw [e2, rOut_ok] at q
      intro w F3 H3 x3 r3
      obtain ⟨F4, x4, r4, sp4⟩ := keep_any u x3 r3
      exact ⟨v, w, rfl, q _ F4 H3 ((x2.trans x4).step st.good.sub) (st2.store x4 r4 j)⟩
end
@[simp] def iaddD : D → D → R D := iiD fun i j => .int (i + j)
section
variable {X : Cx}
theorem iop_mulM : OpR X (inplaceOp .Mult) (rI (fun i j => mulOk i j = true) fun i j => .int (i * j)) := opI fun _ _ _ _ _ _ _ hc q => PyProof.Rows.imul_int q (guardB_iff.mp hc)
theorem sim_mulM : Sim2 X (rI (fun i j => mulOk i j = true) fun i j => .int (i * j)) mulD := sim_i (fun i j e => e) (hi _)
theorem iop_fdivM : OpR X (inplaceOp .FloorDiv) (rI (fun i j => divOk i j = true) fun i j => .int (i / j)) := opI fun i j _ _ _ _ _ hc q => by
  obtain ⟨h1, h2⟩ := guardB_iff.mp hc
  exact ifloordiv_int (by omega) (by rw [Int.fdiv_eq_ediv_of_nonneg i (by omega)]; exact q) (.inl h2)
theorem sim_divM : Sim2 X (rI (fun i j => divOk i j = true) fun i j => .int (i / j)) divD := sim_i (fun i j e => e) (hi _)
end
/-- a module's int -/
theorem mv_gi {X : Cx} {W : WX} {x : Str} {n : Int} {pos : Pos} (hm : ∃ t, X.mg x = some (.int n t)) (hg : Gl X x := by rfl) (hd : (x == ("__debug__" : Str)) = false := by decide) : MV X W (.Name x pos) (cV (.int n)) := by
  obtain ⟨t, hm⟩ := hm
  exact mv_c (pe_glob hg hm (v := .int n) ⟨t, rfl⟩ hd) fun _ _ => held_int.mpr rfl

/-! ### sum, all, any, min, max of lists; of two -/
section
variable {X : Cx} {W : WX} {e : Expr} {fs : Rho → R (List D)} {p pos : Pos}
def asBls : List D → Option (List Bool)
  | [] => some []
  | .bl b :: ds => (asBls ds).map (b :: ·)
  | _ => none
theorem asBls_eq : ∀ {ds : List D} {is : List Bool}, asBls ds = some is → ds = is.map .bl
  | [], is, h => by cases h; rfl
  | d :: ds, is, h => by
    cases d <;> try (cases h; done)
    unfold asBls at h
    cases e : asBls ds with
    | none => rw [e] at h; cases h
    | some js => rw [e] at h; cases h; rw [asBls_eq e]; rfl
theorem reps_ints_of {K : PySem.W.Frag} {mg : Str → Option Value} {F : Hp} : ∀ {is : List Int} {vs : List V}, Reps K mg F (is.map .int) vs → vs = is.map V.int
  | [], _, r => reps_nil.mp r
  | i :: is, vs, r => by
    obtain ⟨v, w, rfl, h1, h2⟩ := reps_cons.mp r
    rw [rep_int.mp h1, reps_ints_of h2]; rfl
theorem reps_bls_of {K : PySem.W.Frag} {mg : Str → Option Value} {F : Hp} : ∀ {is : List Bool} {vs : List V}, Reps K mg F (is.map .bl) vs → vs = is.map V.bl
  | [], _, r => reps_nil.mp r
  | i :: is, vs, r => by
    obtain ⟨v, w, rfl, h1, h2⟩ := reps_cons.mp r
    rw [rep_bl.mp h1, reps_bls_of h2]; rfl
@[simp] def sumD : List D → R D
  | [.lst ds] => match asInts ds with | some is => .ok (.int is.sum) | none => .no
  | _ => .no
@[simp] def allD : List D → R D
  | [.lst ds] => match asBls ds with | some is => .ok (.bl (is.all id)) | none => .no
  | _ => .no
@[simp] def anyD : List D → R D
  | [.lst ds] => match asBls ds with | some is => .ok (.bl (is.any id)) | none => .no
  | _ => .no
def lstMax : List Int → Int
  | [] => 0
  | [x] => x
  | x :: xs => if lstMax xs < x then x else lstMax xs
def lstMin : List Int → Int
  | [] => 0
  | [x] => x
  | x :: xs => if x < lstMin xs then x else lstMin xs
theorem lstMax_ok : ∀ xs : List Int, xs ≠ [] → lstMax xs ∈ xs ∧ ∀ y ∈ xs, y ≤ lstMax xs
  | [x], _ => ⟨List.mem_singleton.mpr rfl, fun y h => by rw [List.mem_singleton.mp h]; exact Int.le_refl _⟩
  | x :: y :: r, _ => by
    obtain ⟨h1, h2⟩ := lstMax_ok (y :: r) (by simp)
    show (if lstMax (y :: r) < x then x else lstMax (y :: r)) ∈ _ ∧ _
    have e : lstMax (x :: y :: r) = if lstMax (y :: r) < x then x else lstMax (y :: r) := rfl
    by_cases c : lstMax (y :: r) < x
    · rw [if_pos c]
      refine ⟨List.mem_cons_self, fun z hz => ?_⟩
      rw [e, if_pos c]
      rcases List.mem_cons.mp hz with rfl | hz
      · exact Int.le_refl _
      · have := h2 z hz; omega
    · rw [if_neg c]
      refine ⟨List.mem_cons_of_mem _ h1, fun z hz => ?_⟩
      rw [e, if_neg c]
      rcases List.mem_cons.mp hz with rfl | hz
      · omega
      · exact h2 z hz
theorem lstMin_ok : ∀ xs : List Int, xs ≠ [] → lstMin xs ∈ xs ∧ ∀ y ∈ xs, lstMin xs ≤ y
  | [x], _ => ⟨List.mem_singleton.mpr rfl, fun y h => by rw [List.mem_singleton.mp h]; exact Int.le_refl _⟩
  | x :: y :: r, _ => by
    obtain ⟨h1, h2⟩ := lstMin_ok (y :: r) (by simp)
    show (if x < lstMin (y :: r) then x else lstMin (y :: r)) ∈ _ ∧ _
    have e : lstMin (x :: y :: r) = if x < lstMin (y :: r) then x else lstMin (y :: r) := rfl
    by_cases c : x < lstMin (y :: r)
    · rw [if_pos c]
      refine ⟨List.mem_cons_self, fun z hz => ?_⟩
      rw [e, if_pos c]
      rcases List.mem_cons.mp hz with rfl | hz
      · exact Int.le_refl _
      · have := h2 z hz; omega
    · rw [if_neg c]
      refine ⟨List.mem_cons_of_mem _ h1, fun z hz => ?_⟩
      rw [e, if_neg c]
      rcases List.mem_cons.mp hz with rfl | hz
      · omega
      · exact h2 z hz
def maxD : List D → R D
  | [.lst ds] => match asInts ds with | some (i :: is) => .ok (.int (lstMax (i :: is))) | _ => .no
  | _ => .no
def minD : List D → R D
  | [.lst ds] => match asInts ds with | some (i :: is) => .ok (.int (lstMin (i :: is))) | _ => .no
  | _ => .no
theorem sumD_nx (ds : List D) : NoEx (sumD ds) := fun c ns es h => by
  unfold sumD at h
  split at h
  · split at h <;> cases h
  · cases h
theorem allD_nx (ds : List D) : NoEx (allD ds) := fun c ns es h => by
  unfold allD at h
  split at h
  · split at h <;> cases h
  · cases h
theorem anyD_nx (ds : List D) : NoEx (anyD ds) := fun c ns es h => by
  unfold anyD at h
  split at h
  · split at h <;> cases h
  · cases h
theorem maxD_nx (ds : List D) : NoEx (maxD ds) := fun c ns es h => by
  unfold maxD at h
  split at h
  · split at h <;> cases h
  · cases h
theorem minD_nx (ds : List D) : NoEx (minD ds) := fun c ns es h => by
  unfold minD at h
  split at h
  · split at h <;> cases h
  · cases h
theorem sim_sum : SimC X (rSum X.K) sumD := fun F H ds vs d Q sb hs e q => by
  unfold sumD at e
  split at e
  · split at e
    · rename_i h1
      cases e
      obtain ⟨v, rfl, h⟩ := helds_one hs
      obtain ⟨a, vs, rfl, h2, h3⟩ := h.lst sb
      rw [asInts_eq h1] at h3
      rw [reps_ints_of h3] at h2
      exact ⟨a, _, rfl, h2, q _ (held_int.mpr rfl)⟩
    · cases e
  · cases e
theorem sim_all : SimC X (rAll X.K) allD := fun F H ds vs d Q sb hs e q => by
  unfold allD at e
  split at e
  · split at e
    · rename_i h1
      cases e
      obtain ⟨v, rfl, h⟩ := helds_one hs
      obtain ⟨a, vs, rfl, h2, h3⟩ := h.lst sb
      rw [asBls_eq h1] at h3
      rw [reps_bls_of h3] at h2
      exact ⟨a, _, rfl, h2, q _ (held_bl.mpr rfl)⟩
    · cases e
  · cases e
theorem sim_any : SimC X (rAny X.K) anyD := fun F H ds vs d Q sb hs e q => by
  unfold anyD at e
  split at e
  · split at e
    · rename_i h1
      cases e
      obtain ⟨v, rfl, h⟩ := helds_one hs
      obtain ⟨a, vs, rfl, h2, h3⟩ := h.lst sb
      rw [asBls_eq h1] at h3
      rw [reps_bls_of h3] at h2
      exact ⟨a, _, rfl, h2, q _ (held_bl.mpr rfl)⟩
    · cases e
  · cases e
theorem sim_max : SimC X (rMax X.K) maxD := fun F H ds vs d Q sb hs e q => by
  unfold maxD at e
  split at e
  · split at e
    · rename_i h1
      cases e
      obtain ⟨v, rfl, h⟩ := helds_one hs
      obtain ⟨a, vs, rfl, h2, h3⟩ := h.lst sb
      rw [asInts_eq h1] at h3
      rw [reps_ints_of h3] at h2
      refine ⟨a, _, rfl, h2, by simp, fun m hm hy => q _ (held_int.mpr ?_)⟩
      obtain ⟨m1, m2⟩ := lstMax_ok _ (show _ :: _ ≠ [] by simp)
      have := m2 m hm
      have := hy _ m1
      congr 1
      omega
    · cases e
  · cases e
theorem sim_min : SimC X (rMin X.K) minD := fun F H ds vs d Q sb hs e q => by
  unfold minD at e
  split at e
  · split at e
    · rename_i h1
      cases e
      obtain ⟨v, rfl, h⟩ := helds_one hs
      obtain ⟨a, vs, rfl, h2, h3⟩ := h.lst sb
      rw [asInts_eq h1] at h3
      rw [reps_ints_of h3] at h2
      refine ⟨a, _, rfl, h2, by simp, fun m hm hy => q _ (held_int.mpr ?_)⟩
      obtain ⟨m1, m2⟩ := lstMin_ok _ (show _ :: _ ≠ [] by simp)
      have := m2 m hm
      have := hy _ m1
      congr 1
      omega
    · cases e
  · cases e
theorem mv_sum (hc : X.calm = true) (hm : X.mg "sum" = none) (ha : ML X W [e] fs) (hg : Gl X "sum" := by rfl) (he : starEach [e] X.env = (false, eval e X.env) :: starEach [] X.env := by rfl) : MV X W (.Call (.Name "sum" p) [e] [] pos) (opL sumD fs) :=
  mv_callB (cr_sum hc) sim_sum sumD_nx hm (by decide +kernel) ha hg (by decide) (by decide) he rfl
theorem mv_all (hc : X.calm = true) (hm : X.mg "all" = none) (ha : ML X W [e] fs) (hg : Gl X "all" := by rfl) (he : starEach [e] X.env = (false, eval e X.env) :: starEach [] X.env := by rfl) : MV X W (.Call (.Name "all" p) [e] [] pos) (opL allD fs) :=
  mv_callB (cr_all hc) sim_all allD_nx hm (by decide +kernel) ha hg (by decide) (by decide) he rfl
theorem mv_any (hc : X.calm = true) (hm : X.mg "any" = none) (ha : ML X W [e] fs) (hg : Gl X "any" := by rfl) (he : starEach [e] X.env = (false, eval e X.env) :: starEach [] X.env := by rfl) : MV X W (.Call (.Name "any" p) [e] [] pos) (opL anyD fs) :=
  mv_callB (cr_any hc) sim_any anyD_nx hm (by decide +kernel) ha hg (by decide) (by decide) he rfl
theorem mv_max (hc : X.calm = true) (hm : X.mg "max" = none) (ha : ML X W [e] fs) (hg : Gl X "max" := by rfl) (he : starEach [e] X.env = (false, eval e X.env) :: starEach [] X.env := by rfl) : MV X W (.Call (.Name "max" p) [e] [] pos) (opL maxD fs) :=
  mv_callB (cr_max hc) sim_max maxD_nx hm (by decide +kernel) ha hg (by decide) (by decide) he rfl
theorem mv_min (hc : X.calm = true) (hm : X.mg "min" = none) (ha : ML X W [e] fs) (hg : Gl X "min" := by rfl) (he : starEach [e] X.env = (false, eval e X.env) :: starEach [] X.env := by rfl) : MV X W (.Call (.Name "min" p) [e] [] pos) (opL minD fs) :=
  mv_callB (cr_min hc) sim_min minD_nx hm (by decide +kernel) ha hg (by decide) (by decide) he rfl
@[simp] def max2D : List D → R D
  | [.int i, .int j] => .ok (.int (if j > i then j else i))
  | _ => .no
@[simp] def min2D : List D → R D
  | [.int i, .int j] => .ok (.int (if j < i then j else i))
  | _ => .no
theorem max2D_nx (ds : List D) : NoEx (max2D ds) := fun c ns es h => by unfold max2D at h; split at h <;> cases h
theorem min2D_nx (ds : List D) : NoEx (min2D ds) := fun c ns es h => by unfold min2D at h; split at h <;> cases h
variable {e2 : Expr}
theorem mv_max2 (hc : X.calm = true) (hm : X.mg "max" = none) (ha : ML X W [e, e2] fs) (hg : Gl X "max" := by rfl) (he : starEach [e, e2] X.env = (false, eval e X.env) :: starEach [e2] X.env := by rfl) (hpl : (backTo pos (starEach [e2] X.env)).any (·.1) = false := by rfl) : MV X W (.Call (.Name "max" p) [e, e2] [] pos) (opL max2D fs) :=
  mv_callB (call_max2 hc) (fun F H ds vs d Q sb hs e q => by
    unfold max2D at e
    split at e
    · rename_i i j
      cases e
      have ev : vs = [V.int i, V.int j] := helds_ints (is := [i, j]) hs
      exact ⟨i, j, ev, q _ (held_int.mpr rfl)⟩
    · cases e) max2D_nx hm (by decide +kernel) ha hg (by decide) (by decide) he hpl
theorem mv_min2 (hc : X.calm = true) (hm : X.mg "min" = none) (ha : ML X W [e, e2] fs) (hg : Gl X "min" := by rfl) (he : starEach [e, e2] X.env = (false, eval e X.env) :: starEach [e2] X.env := by rfl) (hpl : (backTo pos (starEach [e2] X.env)).any (·.1) = false := by rfl) : MV X W (.Call (.Name "min" p) [e, e2] [] pos) (opL min2D fs) :=
  mv_callB (call_min2 hc) (fun F H ds vs d Q sb hs e q => by
    unfold min2D at e
    split at e
    · rename_i i j
      cases e
      have ev : vs = [V.int i, V.int j] := helds_ints (is := [i, j]) hs
      exact ⟨i, j, ev, q _ (held_int.mpr rfl)⟩
    · cases e) min2D_nx hm (by decide +kernel) ha hg (by decide) (by decide) he hpl
end

/-! ### the law's end -/
def spLaw (K : PySem.W.Frag) (n : Nat) : Sp := fun vs H Q _ => ∃ (a : Addr) (ns : List Int), vs = [.ref a] ∧ SqL K H a (ns.map V.int) ∧ ns.length ≤ n ∧ (∀ z ∈ ns, Builtin.Int.intBits z ≤ 1048576) ∧ Only H ∧ ∀ H', Q (.bl true) H'
theorem law_ok {P : Program} {w : World} {K : PySem.W.Frag} {mg : Str → Option Value} {base : Heap} {k n : Nat} {f : Addr} {fd : FuncData} {ps : List Str} {mir : List D → R Sl} (F : FnOk P w K mg base (L2.CX P w) k f fd ps (SpM K mg 1 mir))
    (h : ∀ ns : List Int, ns.length ≤ n → (∀ z ∈ ns, Builtin.Int.intBits z ≤ 1048576) → mir [.sq ns] = .ok (.fz (.bl true))) : FnOk P w K mg base CX0 k f fd ps (spLaw K n) := by
  have key : ∀ vs H Q E, spLaw K n vs H Q E → SpM K mg 1 mir vs H Q E0 := fun vs H Q E ⟨a, ns, e, hs, hl, hbt, ho, q⟩ => by
    subst e
    have fin : ∀ Fz : Hp, Sub Fz H → ScrAt K Fz a (ns.map V.int) → SpM K mg 1 mir [.ref a] H Q E0 := fun Fz sb sc => by
      refine ⟨Fz, [.sq ns], sb, reps_cons.mpr ⟨_, _, rfl, rep_sq.mpr ⟨a, rfl, sc⟩, reps_nil.mpr rfl⟩, rfl, ?_⟩
      rw [h ns hl hbt]
      intro v F' H' _ r
      rw [show v = .bl true from (rep_bl (K := K) (mg := mg) (F := F')).mp r]
      exact q H'
    rcases hs with hs | hs
    · refine fin (fun b => if b = a then some (.lst (ns.map V.int)) else none) ⟨fun b u z => ?_, fun b vs z => ?_⟩ (.inl (if_pos rfl))
      · by_cases hb : b = a
        · subst hb
          rw [if_pos rfl] at z; cases z
          exact hs
        · rw [if_neg hb] at z; cases z
      · rcases ho b with z' | ⟨o', xs, z'⟩ <;> rw [z'] at z <;> cases z
    · refine fin (fun _ => none) ⟨fun b u z => (nomatch z), fun b vs z => ?_⟩ (.inr (.inr hs))
      rcases ho b with z' | ⟨o', xs, z'⟩ <;> rw [z'] at z <;> cases z
  refine ⟨fun vs H Q E hs => F.len vs H Q E0 (key vs H Q E hs), fun A outer s H args us vs Q E hr e0 hb hv hs => codeAny_mono (F.run A outer s H args us vs Q E0 hr e0 hb hv (key vs H Q E hs)) fun r s' z => ?_⟩
  cases r with
  | ok fl => cases fl <;> exact z
  | error e =>
    obtain ⟨_, _, _, _, _, _, _, _, _, _, _, _, zz⟩ := z
    exact zz.elim
/-! ### `is not` of bools -/
@[simp] def isnotD : D → D → R D
  | .bl a, .bl b => .ok (.bl (!decide (a = b)))
  | _, _ => .no
theorem isnotD_nx (a b : D) : NoEx (isnotD a b) := fun c ns ds h => by unfold isnotD at h; split at h <;> cases h
theorem sim_isnot : Sim2 X rNotB isnotD := fun F H d1 d2 v1 v2 d Q sb h1 h2 e q => by
  unfold isnotD at e
  split at e
  · next x y =>
    cases e
    exact ⟨x, y, held_bl.mp h1, held_bl.mp h2, by
      refine q _ (held_bl.mpr ?_)
      first | rfl | (congr 1; cases x <;> cases y <;> rfl)⟩
  · cases e
theorem mv_isnot (ha : MV X W a f) (hb : MV X W b h) : MV X W (.Compare a [.IsNot] [b] pos) (op2 isnotD f h) := mv_cmp op_notBl sim_isnot isnotD_nx ha hb (nomark _)
theorem mt_isnot (ha : MV X W a f) (hb : MV X W b h) : MT X W (.Compare a [.IsNot] [b] pos) (toT (op2 isnotD f h)) := mt_cmp op_notBl sim_isnot isnotD_nx ha hb (nomark _)
end Mp

namespace Mp
open PySem PySem.Spec PyProof.Rows L2
variable {X : Cx} {W : WX}
/-! ### xs[::-1] -/
@[simp] def revD : D → R Sl
  | .lst ds => .ok (.ow (.lst ds.reverse))
  | .sq is => .ok (.ow (.lst (is.reverse.map D.int)))
  | _ => .no
@[simp] def revF (f : Rho → R D) : Rho → R Sl := fun ρ => (f ρ).bind revD
theorem reps_rev {K : PySem.W.Frag} {mg : Str → Option Value} {F : Hp} : ∀ {ds : List D} {vs : List V}, Reps K mg F ds vs → Reps K mg F ds.reverse vs.reverse := by
  intro ds vs r
  induction ds generalizing vs with
  | nil => rw [reps_nil.mp r]; exact reps_nil.mpr rfl
  | cons d ds ih =>
    obtain ⟨v1, r1, rfl, h1, h2⟩ := reps_cons.mp r
    rw [List.reverse_cons, List.reverse_cons]
    exact (ih h2).append (reps_cons.mpr ⟨v1, [], rfl, h1, reps_nil.mpr rfl⟩)
theorem me_rev {k : Nat} {p1 p2 p3 pos : Pos} {e : Expr} {f : Rho → R D} (he : MV X W e f) : ME X W (.Subscript e (.Slice none none (some (.UnaryOp .USub (.Constant (.int 1) k p1) p2)) p3) pos) (revF f) := by
  refine pe_imp (pe_revL he) fun σ H Q ⟨F, ρ, gd, q⟩ => ?_
  refine tV_then (P := fun F H => EPost X.K X.mg W F H σ Q) gd q (fun _ _ _ z => z) (fun z => z) (fun F' H' r x z => z.ext x) fun d v F1 H1 _ x1 g1 r1 z1 => ?_
  have sb := g1.sub
  cases d with
  | lst ds =>
    obtain ⟨a, vs, rfl, hq, r⟩ := r1.lst sb
    exact ⟨a, vs, rfl, hq, fun p n => z1 _ F1 _ (ext_new sb n fun _ q => nomatch q) ⟨p, rfl, n, sb.none n, _, upd_same, reps_rev r⟩⟩
  | sq is =>
    obtain ⟨a, rfl, hq⟩ := r1.sq sb
    refine ⟨a, _, rfl, hq.sq sb, fun p n => z1 _ F1 _ (ext_new sb n fun _ q => nomatch q) ⟨p, rfl, n, sb.none n, _, upd_same, ?_⟩⟩
    rw [← List.map_reverse]
    exact reps_ints _
  | _ => exact z1.elim
/-! ### is None -/
@[simp] def isND : D → D → R D
  | .non, .non => .ok (.bl true)
  | .bl _, .non => .ok (.bl false)
  | .int _, .non => .ok (.bl false)
  | .str _, .non => .ok (.bl false)
  | .tup _, .non => .ok (.bl false)
  | .lst _, .non => .ok (.bl false)
  | .sq _, .non => .ok (.bl false)
  | _, _ => .no
@[simp] def notND : D → D → R D
  | .non, .non => .ok (.bl false)
  | .bl _, .non => .ok (.bl true)
  | .int _, .non => .ok (.bl true)
  | .str _, .non => .ok (.bl true)
  | .tup _, .non => .ok (.bl true)
  | .lst _, .non => .ok (.bl true)
  | .sq _, .non => .ok (.bl true)
  | _, _ => .no
theorem isND_nx (a b : D) : NoEx (isND a b) := fun c ns ds h => by unfold isND at h; split at h <;> cases h
theorem notND_nx (a b : D) : NoEx (notND a b) := fun c ns ds h => by unfold notND at h; split at h <;> cases h
def rIsNo : R2 := fun x y H Q => y = .non ∧ Q (.bl (decide (x = .non))) H
def rNotNo : R2 := fun x y H Q => y = .non ∧ Q (.bl (!decide (x = .non))) H
theorem op_isNo : OpR X (compareOp .Is) rIsNo := op_isN
theorem op_notNo : OpR X (compareOp .IsNot) rNotNo := op_notN
theorem sim_isN : Sim2 X rIsNo isND := fun F H d1 d2 v1 v2 d Q sb h1 h2 e q => by
  unfold isND at e
  split at e
  · cases e; rw [held_non.mp h1, held_non.mp h2]; exact And.intro rfl (q _ (held_bl.mpr (by first | rfl | simp)))
  · cases e; rw [held_bl.mp h1, held_non.mp h2]; exact And.intro rfl (q _ (held_bl.mpr (by first | rfl | simp)))
  · cases e; rw [held_int.mp h1, held_non.mp h2]; exact And.intro rfl (q _ (held_bl.mpr (by first | rfl | simp)))
  · cases e; rw [held_str.mp h1, held_non.mp h2]; exact And.intro rfl (q _ (held_bl.mpr (by first | rfl | simp)))
  · cases e; obtain ⟨a, vs, rfl, _⟩ := h1.tup sb; rw [held_non.mp h2]; exact And.intro rfl (q _ (held_bl.mpr (by first | rfl | simp)))
  · cases e; obtain ⟨a, vs, rfl, _⟩ := h1.lst sb; rw [held_non.mp h2]; exact And.intro rfl (q _ (held_bl.mpr (by first | rfl | simp)))
  · cases e; obtain ⟨a, rfl, _⟩ := h1.sq sb; rw [held_non.mp h2]; exact And.intro rfl (q _ (held_bl.mpr (by first | rfl | simp)))
  · cases e
theorem sim_notN : Sim2 X rNotNo notND := fun F H d1 d2 v1 v2 d Q sb h1 h2 e q => by
  unfold notND at e
  split at e
  · cases e; rw [held_non.mp h1, held_non.mp h2]; exact And.intro rfl (q _ (held_bl.mpr (by first | rfl | simp)))
  · cases e; rw [held_bl.mp h1, held_non.mp h2]; exact And.intro rfl (q _ (held_bl.mpr (by first | rfl | simp)))
  · cases e; rw [held_int.mp h1, held_non.mp h2]; exact And.intro rfl (q _ (held_bl.mpr (by first | rfl | simp)))
  · cases e; rw [held_str.mp h1, held_non.mp h2]; exact And.intro rfl (q _ (held_bl.mpr (by first | rfl | simp)))
  · cases e; obtain ⟨a, vs, rfl, _⟩ := h1.tup sb; rw [held_non.mp h2]; exact And.intro rfl (q _ (held_bl.mpr (by first | rfl | simp)))
  · cases e; obtain ⟨a, vs, rfl, _⟩ := h1.lst sb; rw [held_non.mp h2]; exact And.intro rfl (q _ (held_bl.mpr (by first | rfl | simp)))
  · cases e; obtain ⟨a, rfl, _⟩ := h1.sq sb; rw [held_non.mp h2]; exact And.intro rfl (q _ (held_bl.mpr (by first | rfl | simp)))
  · cases e
theorem mv_isN (ha : MV X W a f) (hb : MV X W b h) : MV X W (.Compare a [.Is] [b] pos) (op2 isND f h) := mv_cmp op_isNo sim_isN isND_nx ha hb (nomark _)
theorem mt_isN (ha : MV X W a f) (hb : MV X W b h) : MT X W (.Compare a [.Is] [b] pos) (toT (op2 isND f h)) := mt_cmp op_isNo sim_isN isND_nx ha hb (nomark _)
theorem mv_notN (ha : MV X W a f) (hb : MV X W b h) : MV X W (.Compare a [.IsNot] [b] pos) (op2 notND f h) := mv_cmp op_notNo sim_notN notND_nx ha hb (nomark _)
theorem mt_notN (ha : MV X W a f) (hb : MV X W b h) : MT X W (.Compare a [.IsNot] [b] pos) (toT (op2 notND f h)) := mt_cmp op_notNo sim_notN notND_nx ha hb (nomark _)
end Mp

namespace Mp
open PySem PySem.Spec PyProof.Rows L2
/-! ### a, b, c = x, y, z -/
@[simp] def sPar3 (i j l : Nat) (fs : Rho → R (List D)) : Sem := fun _ ρ => rOut ρ (fs ρ) fun
  | [d, e, f] => .nx (((ρ.set i (.fz d)).set j (.fz e)).set l (.fz f))
  | _ => .no
section
variable {X : Cx} {W : WX}
theorem ms_par3 {i j l : Nat} {x y z : Str} {a b c : Expr} {fs : Rho → R (List D)} {px py pz pt pos : Pos} {kt k2 pt2} (hc : X.calm = true) (hN : X.N.Nodup) (ha : MA X W [a, b, c] fs) (hi : X.N[i]? = some x := by rfl) (hj : X.N[j]? = some y := by rfl) (hl : X.N[l]? = some z := by rfl) (hij : i ≠ j := by decide) (hil : i ≠ l := by decide) (hjl : j ≠ l := by decide)
    (hx : X.env.scope.names.lookup x = some .local := by rfl) (hy : X.env.scope.names.lookup y = some .local := by rfl) (hz : X.env.scope.names.lookup z = some .local := by rfl)
    (hw : swappedStores [.Tuple [.Name x px, .Name y py, .Name z pz] kt pt] (.Tuple [a, b, c] k2 pt2) X.env = pure (some [x, y, z]) := by rfl)
    (hs : swapsWithSole [.Tuple [.Name x px, .Name y py, .Name z pz] kt pt] (.Tuple [a, b, c] k2 pt2) pos.line X.env = pure false := by rfl) :
    MS X W (.Assign [.Tuple [.Name x px, .Name y py, .Name z pz] kt pt] (.Tuple [a, b, c] k2 pt2) pos) (sPar3 i j l fs) := by
  refine ps_imp (L2.ps_par3 hc hN hi hj hl hij hil hjl hx hy hz ha hw hs) fun D σ H ⟨n, F, ρ, F0, H0, st, q⟩ => ?_
  refine ⟨F, ρ, st.good, ?_⟩
  unfold sPar3 at q
  cases e1 : fs ρ with
  | ex c ns ds => rw [e1] at q; exact fun cl dx F' H' x r => q cl dx σ F' H' (x.step st.good.sub) (st.grow x) r
  | no => rw [e1] at q; exact q
  | ok ds =>
    rw [e1] at q
    intro vs F1 H1 x1 r1
    match ds, r1, q with
    | [d, e, f], r1, q =>
      obtain ⟨v, r, rfl, h1, h2⟩ := reps_cons.mp r1
      obtain ⟨w, r', rfl, h3, h4⟩ := reps_cons.mp h2
      obtain ⟨u, r'', rfl, h5, h6⟩ := reps_cons.mp h4
      rw [reps_nil.mp h6]
      exact ⟨v, w, u, rfl, q _ F1 H1 (x1.step st.good.sub) ((((st.grow x1).setFz i h1).setFz j h3).setFz l h5)⟩
    | [], _, q => exact q.elim
    | [_], _, q => exact q.elim
    | [_, _], _, q => exact q.elim
    | _ :: _ :: _ :: _ :: _, _, q => exact q.elim
end
theorem seq_par3 {i j l : Nat} {n : Nat} {ρ : Rho} {t : Sem} {fs : Rho → R (List D)} (d e f : D) (h : fs ρ = .ok [d, e, f]) : sSeq (sPar3 i j l fs) t n ρ = t n (((ρ.set i (.fz d)).set j (.fz e)).set l (.fz f)) := by simp [h]
/-- the slots at a def's start, n of them -/
def startN (n : Nat) (ds : List D) : Rho := ds.map .fz ++ List.replicate (n - ds.length) .un
end Mp

namespace Mp
open PySem PySem.Spec PyProof.Rows L2

/-! ### the meanings, for simp -/
section
variable {i j : Int} {ρ : Rho}
theorem log2_lt {n k : Nat} (h0 : 0 < k) (h : n < 2 ^ k) : n.log2 < k := PySem.Flt.log2_lt_of h0 h
theorem intBits_le (i : Int) : Builtin.Int.intBits i ≤ i.natAbs.log2 + 1 := by
  unfold Builtin.Int.intBits
  split <;> omega
theorem intBits_lt {i : Int} {a : Nat} (hi : i.natAbs < 2 ^ a) (ha : 0 < a := by decide) : Builtin.Int.intBits i ≤ a := by
  have := intBits_le i
  have := log2_lt ha hi
  omega
theorem mulOk_bits (h : Builtin.Int.intBits i + Builtin.Int.intBits j ≤ 134217728) : mulOk i j = true := guardB_iff.mpr (by
  have e : bitsLine = 134217728 := by decide
  unfold IntMulOk
  intro z
  rw [Bool.and_eq_true] at z
  have z2 := z.2
  unfold Builtin.Int.intTooBig at z2
  have z3 := of_decide_eq_true z2
  rw [e] at z3
  omega)
theorem mulOk_of {a b : Nat} (hi : i.natAbs < 2 ^ a) (hj : j.natAbs < 2 ^ b) (ha : 0 < a := by decide) (hb : 0 < b := by decide) (h : a + b ≤ 134217728 := by decide) : mulOk i j = true := by
  have h1 := intBits_lt hi ha
  have h2 := intBits_lt hj hb
  exact mulOk_bits (by omega)
/-- one factor small: the other of any size -/
theorem mulOk_l (h1 : -18446744073709551616 < i) (h2 : i < 18446744073709551616) : mulOk i j = true := guardB_iff.mpr (IntMulOk.of_left (PySem.intBits_le_64 (by simpa using h1) (by simpa using h2)))
theorem mulOk_r (h1 : -18446744073709551616 < j) (h2 : j < 18446744073709551616) : mulOk i j = true := guardB_iff.mpr (IntMulOk.of_right (PySem.intBits_le_64 (by simpa using h1) (by simpa using h2)))
/-- two factors of at most some 60 figures -/
theorem mulOk_small (h1 : i.natAbs < 1000000000000000000000000000000000000000000000000000000000000) (h2 : j.natAbs < 1000000000000000000000000000000000000000000000000000000000000) : mulOk i j = true :=
  mulOk_of (a := 200) (b := 200) (Nat.lt_of_lt_of_le h1 (by decide)) (Nat.lt_of_lt_of_le h2 (by decide))
theorem natAbs_lt {i : Int} {n : Nat} (h1 : -(n : Int) < i) (h2 : i < n) : i.natAbs < n := by omega
theorem mulOk_lin (h1 : -1000000000000000000000000000000000000000000000000000000000000 < i) (h2 : i < 1000000000000000000000000000000000000000000000000000000000000) (h3 : -1000000000000000000000000000000000000000000000000000000000000 < j) (h4 : j < 1000000000000000000000000000000000000000000000000000000000000) : mulOk i j = true :=
  mulOk_small (natAbs_lt (n := 1000000000000000000000000000000000000000000000000000000000000) h1 h2) (natAbs_lt (n := 1000000000000000000000000000000000000000000000000000000000000) h3 h4)
theorem mul_lin {i j : Int} {a b : Nat} (h1 : -(a : Int) < i ∧ i < a) (h2 : -(b : Int) < j ∧ j < b) : -((a * b : Nat) : Int) < i * j ∧ i * j < ((a * b : Nat) : Int) := by
  have h : (i * j).natAbs < a * b := by
    rw [Int.natAbs_mul]
    exact Nat.mul_lt_mul'' (natAbs_lt h1.1 h1.2) (natAbs_lt h2.1 h2.2)
  omega
theorem divOk_small (h : 0 < j) (h2 : j < 1073741824) : divOk i j = true := guardB_iff.mpr ⟨h, PyProof.noPylong_small (by omega)⟩
theorem divOk_mid (h : 0 < j) (h2 : j.natAbs.log2 < 9000) : divOk i j = true := guardB_iff.mpr ⟨h, PyProof.noPylong_of_log2 h2⟩
theorem powOk_bits {k : Nat} (hb : Builtin.Int.intBits i ≤ k) (h1 : 0 ≤ j) (h : (k : Int) * j ≤ 134217728) : powOk i j = true := guardB_iff.mpr ⟨h1, by
  have e : (2 : Int) ^ 27 = 134217728 := by decide
  rw [e]
  have h2 : (Builtin.Int.intBits i : Int) * j ≤ (k : Int) * j := Int.mul_le_mul_of_nonneg_right (by omega) h1
  omega⟩
theorem powOk_small (h1 : 0 ≤ j) (h2 : j ≤ 1000000) (h3 : i.natAbs < 18446744073709551616) : powOk i j = true :=
  powOk_bits (k := 64) (intBits_lt (a := 64) (by simpa using h3)) h1 (by omega)
theorem rngOk_small (h1 : -4611686018427387904 ≤ i) (h2 : i < 4611686018427387904) : rngOk i = true := guardB_iff.mpr (by
  have e : (2 : Int) ^ 62 = 4611686018427387904 := by decide
  rw [e]
  exact ⟨h1, h2⟩)
end
/-! ### loops, by an invariant -/
theorem sLoop_inv {g : D → Rho → R Rho} {b : Sem} {n : Nat} (I : Nat → Rho → Prop) : ∀ (ds : List D) (k : Nat) (ρ : Rho), I k ρ →
    (∀ (j : Nat) (d : D) (ρ : Rho), ds[j]? = some d → I (k + j) ρ → ∃ ρ1 ρ2, g d ρ = .ok ρ1 ∧ oLoop (b n ρ1) .nx = .nx ρ2 ∧ (∀ t, oLoop (b n ρ1) t = t ρ2) ∧ I (k + j + 1) ρ2) → ∃ ρ', sLoop g b n ds ρ = .nx ρ' ∧ I (k + ds.length) ρ'
  | [], k, ρ, h, _ => ⟨ρ, rfl, h⟩
  | d :: ds, k, ρ, h, hs => by
    obtain ⟨ρ1, ρ2, e1, e2, e3, h2⟩ := hs 0 d ρ rfl h
    obtain ⟨ρ', e4, h4⟩ := sLoop_inv I ds (k + 1) ρ2 h2 fun j d' ρ hj hI => by
      have := hs (j + 1) d' ρ hj (by rw [show k + (j + 1) = k + 1 + j by omega]; exact hI)
      rw [show k + (j + 1) + 1 = k + 1 + j + 1 by omega] at this
      exact this
    refine ⟨ρ', ?_, by rw [List.length_cons, show k + (ds.length + 1) = k + 1 + ds.length by omega]; exact h4⟩
    show rOut ρ (g d ρ) _ = _
    rw [e1, rOut_ok, e3]
    exact e4
/-- .. where the body's end is plain -/
theorem sLoop_nx {g : D → Rho → R Rho} {b : Sem} {n : Nat} (I : Nat → Rho → Prop) (ds : List D) (ρ : Rho) (h0 : I 0 ρ)
    (hs : ∀ (j : Nat) (d : D) (ρ : Rho), ds[j]? = some d → I j ρ → ∃ ρ1 ρ2, g d ρ = .ok ρ1 ∧ b n ρ1 = .nx ρ2 ∧ I (j + 1) ρ2) : ∃ ρ', sLoop g b n ds ρ = .nx ρ' ∧ I ds.length ρ' := by
  obtain ⟨ρ', e, h⟩ := sLoop_inv (g := g) (b := b) (n := n) I ds 0 ρ h0 fun j d ρ hj hI => by
    rw [Nat.zero_add] at hI ⊢
    obtain ⟨ρ1, ρ2, e1, e2, h2⟩ := hs j d ρ hj hI
    exact ⟨ρ1, ρ2, e1, by rw [e2]; rfl, fun t => by rw [e2]; rfl, h2⟩
  rw [Nat.zero_add] at h
  exact ⟨ρ', e, h⟩
def NxP (o : Out) (P : Rho → Prop) : Prop := ∃ ρ, o = .nx ρ ∧ P ρ
def RP {α : Type} (r : R α) (P : α → Prop) : Prop := ∃ a, r = .ok a ∧ P a
def RtP (o : Out) (P : Sl → Prop) : Prop := ∃ s, o = .rt s ∧ P s
@[simp] theorem NxP_nx {ρ : Rho} {P : Rho → Prop} : NxP (.nx ρ) P ↔ P ρ := ⟨fun ⟨_, e, h⟩ => by cases e; exact h, fun h => ⟨ρ, rfl, h⟩⟩
@[simp] theorem RP_ok {α : Type} {a : α} {P : α → Prop} : RP (.ok a) P ↔ P a := ⟨fun ⟨_, e, h⟩ => by cases e; exact h, fun h => ⟨a, rfl, h⟩⟩
@[simp] theorem RtP_rt {s : Sl} {P : Sl → Prop} : RtP (.rt s) P ↔ P s := ⟨fun ⟨_, e, h⟩ => by cases e; exact h, fun h => ⟨s, rfl, h⟩⟩
theorem NxP.imp {o : Out} {P Q : Rho → Prop} (h : NxP o P) (i : ∀ ρ, P ρ → Q ρ) : NxP o Q := let ⟨ρ, e, p⟩ := h; ⟨ρ, e, i ρ p⟩
theorem NxP.seq {o : Out} {k : Rho → Out} {P Q : Rho → Prop} (h : NxP o P) (i : ∀ ρ, P ρ → NxP (k ρ) Q) : NxP (oSeq o k) Q := by
  obtain ⟨ρ, e, p⟩ := h; rw [e]; exact i ρ p
theorem NxP.ret {o : Out} {k : Rho → Out} {P : Rho → Prop} {Q : Sl → Prop} (h : NxP o P) (i : ∀ ρ, P ρ → RtP (k ρ) Q) : RtP (oSeq o k) Q := by
  obtain ⟨ρ, e, p⟩ := h; rw [e]; exact i ρ p
theorem sLoop_P {g : D → Rho → R Rho} {b : Sem} {n : Nat} (I : Nat → Rho → Prop) {ds : List D} {ρ : Rho} (h0 : I 0 ρ)
    (hs : ∀ (j : Nat) (d : D) (ρ : Rho), ds[j]? = some d → I j ρ → RP (g d ρ) fun ρ1 => NxP (b n ρ1) (I (j + 1))) : NxP (sLoop g b n ds ρ) (I ds.length) := by
  obtain ⟨ρ', e, h⟩ := sLoop_nx (g := g) (b := b) (n := n) I ds ρ h0 fun j d ρ hj hI => by
    obtain ⟨ρ1, e1, ρ2, e2, h2⟩ := hs j d ρ hj hI
    exact ⟨ρ1, ρ2, e1, e2, h2⟩
  exact ⟨ρ', e, h⟩
theorem sWhile_P {c : Rho → R Bool} {b : Sem} (I : Rho → Prop) (μ : Rho → Nat) {n : Nat} {ρ : Rho} (h0 : I ρ) (hn : μ ρ < n)
    (hs : ∀ ρ, I ρ → RP (c ρ) fun k => k = true → ∀ m, NxP (b m ρ) fun ρ2 => I ρ2 ∧ μ ρ2 < μ ρ) : NxP (sWhile c b n ρ) fun ρ => I ρ ∧ c ρ = .ok false := by
  induction n generalizing ρ with
  | zero => omega
  | succ n ih =>
    obtain ⟨k, e, h⟩ := hs ρ h0
    cases k with
    | false =>
      refine ⟨ρ, ?_, h0, e⟩
      show rOut ρ (c ρ) _ = _
      rw [e]; rfl
    | true =>
      obtain ⟨ρ2, e2, h2, hm⟩ := h rfl n
      obtain ⟨ρ', e3, h3⟩ := ih h2 (by omega)
      refine ⟨ρ', ?_, h3⟩
      show rOut ρ (c ρ) _ = _
      rw [e, rOut_ok, if_pos rfl, e2]
      exact e3
theorem sWhile_step {c : Rho → R Bool} {b : Sem} {n : Nat} {ρ ρ' : Rho} (hc : c ρ = .ok true) (hb : b n ρ = .nx ρ') : sWhile c b (n + 1) ρ = sWhile c b n ρ' := by
  show rOut ρ (c ρ) _ = _
  rw [hc, rOut_ok, if_pos rfl, hb]; rfl
theorem sWhile_stop {c : Rho → R Bool} {b : Sem} {n : Nat} {ρ : Rho} (hc : c ρ = .ok false) : sWhile c b (n + 1) ρ = .nx ρ := by
  show rOut ρ (c ρ) _ = _
  rw [hc]; rfl
/-- a range's items -/
theorem rngL_get {i j : Int} {k : Nat} {d : D} (h : (rngL i j)[k]? = some d) : d = .int (i + (k : Nat)) ∧ (k : Int) < j - i := by
  unfold rngL at h
  rw [List.getElem?_map] at h
  by_cases hk : k < (j - i).toNat
  · rw [List.getElem?_range hk] at h
    cases h
    exact ⟨rfl, by omega⟩
  · rw [List.getElem?_eq_none (by simpa using hk)] at h; cases h
theorem rngL_len {i j : Int} : (rngL i j).length = (j - i).toNat := by unfold rngL; simp
theorem ints_get {is : List Int} {k : Nat} {d : D} (h : (is.map D.int)[k]? = some d) : ∃ i, d = .int i ∧ is[k]? = some i := by
  rw [List.getElem?_map] at h
  cases e : is[k]? with
  | none => rw [e] at h; cases h
  | some i => rw [e] at h; cases h; exact ⟨i, rfl, rfl⟩
/-- while, by an invariant and a measure -/
theorem sWhile_inv {c : Rho → R Bool} {b : Sem} (I : Rho → Prop) (μ : Rho → Nat) (P : Rho → Prop) (hstop : ∀ ρ, I ρ → c ρ = .ok false → P ρ)
    (hs : ∀ ρ, I ρ → c ρ = .ok false ∨ (c ρ = .ok true ∧ ∀ n, ∃ ρ2, b n ρ = .nx ρ2 ∧ I ρ2 ∧ μ ρ2 < μ ρ)) : ∀ (n : Nat) (ρ : Rho), I ρ → μ ρ < n → ∃ ρ', sWhile c b n ρ = .nx ρ' ∧ I ρ' ∧ P ρ'
  | 0, ρ, _, h => by omega
  | n + 1, ρ, hI, h => by
    rcases hs ρ hI with e | ⟨e, hb⟩
    · refine ⟨ρ, ?_, hI, hstop ρ hI e⟩
      show rOut ρ (c ρ) _ = _
      rw [e]; rfl
    · obtain ⟨ρ2, e2, hI2, hm⟩ := hb n
      obtain ⟨ρ', e3, h3, h4⟩ := sWhile_inv I μ P hstop hs n ρ2 hI2 (by omega)
      refine ⟨ρ', ?_, h3, h4⟩
      show rOut ρ (c ρ) _ = _
      rw [e, rOut_ok, if_pos rfl, e2]
      exact e3
theorem cutG_take {α : Type} {xs : List α} {k : Int} (h : 0 ≤ k) : cutG xs none (some k) = xs.take k.toNat := by
  obtain ⟨n, rfl⟩ := Int.eq_ofNat_of_zero_le h
  unfold cutG
  rw [show HT.sIx xs.length xs.length (some (n : Int)) = min n xs.length from HT.sIx_nat _ _ _, HT.sIx_none, Nat.sub_zero, List.drop_zero]
  show xs.take (min n xs.length) = xs.take n
  rw [List.take_eq_take_iff]
  omega
theorem cutG_drop {α : Type} {xs : List α} {k : Int} (h : 0 ≤ k) : cutG xs (some k) none = xs.drop k.toNat := by
  obtain ⟨n, rfl⟩ := Int.eq_ofNat_of_zero_le h
  unfold cutG
  rw [show HT.sIx xs.length 0 (some (n : Int)) = min n xs.length from HT.sIx_nat _ _ _, HT.sIx_none]
  show (xs.drop (min n xs.length)).take (xs.length - min n xs.length) = xs.drop n
  by_cases hn : n ≤ xs.length
  · rw [Nat.min_eq_left hn, ← List.length_drop, List.take_length]
  · rw [Nat.min_eq_right (by omega), List.drop_length, List.drop_eq_nil_of_le (by omega)]
    simp
theorem iicD_int {c : Int → Int → Bool} {f : Int → Int → D} {i j : Int} (h : c i j = true) : iicD c f (.int i) (.int j) = .ok (f i j) := by
  simp [h]

/-! ### statement by statement -/
section
variable {i j : Nat} {f : Rho → R Sl} {t a b : Sem} {n : Nat} {ρ ρ' : Rho} {s : Sl} {c : Rho → R Bool} {g : D → Rho → R Rho} {it : Rho → R (List D)} {ds : List D} {d : D}
theorem seq_set (s : Sl) (h : f ρ = .ok s) : sSeq (sSet i f) t n ρ = t n (ρ.set i (frzL s)) := by simp [h]
theorem seq_own (s : Sl) (h : f ρ = .ok s) : sSeq (sOwn i f) t n ρ = t n (ρ.set i s) := by simp [h]
theorem seq_asg (d : D) (ρ' : Rho) (h : toV f ρ = .ok d) (hg : g d ρ = .ok ρ') : sSeq (sAsg f g) t n ρ = t n ρ' := by
  unfold sSeq sAsg
  rw [h, rOut_ok, hg, oSeq_nx]
theorem seq_par {fs : Rho → R (List D)} (d e : D) (h : fs ρ = .ok [d, e]) : sSeq (sPar i j fs) t n ρ = t n ((ρ.set i (.fz d)).set j (.fz e)) := by simp [h]
theorem seq_par2 {o u : Bool} {f' : Rho → R Sl} (s t' : Sl) (h : f ρ = .ok s) (h' : f' ρ = .ok t') : sSeq (sPar2 i j o u f f') t n ρ = t n ((ρ.set i (keepS o s)).set j (keepS u t')) := by
  unfold sSeq sPar2
  rw [h, rOut_ok, h', rOut_ok, oSeq_nx]
theorem seq_if0 (h : c ρ = .ok false) : sSeq (sIf c a sNil) t n ρ = t n ρ := by simp [h]
theorem seq_ifF (h : c ρ = .ok false) : sSeq (sIf c a b) t n ρ = oSeq (b n ρ) (t n) := by simp [h]
theorem seq_ifT (h : c ρ = .ok true) : sSeq (sIf c a b) t n ρ = oSeq (a n ρ) (t n) := by simp [h]
theorem seq_for (ds : List D) (ρ' : Rho) (h : it ρ = .ok ds) (hl : sLoop g b n ds ρ = .nx ρ') : sSeq (sFor it g b) t n ρ = t n ρ' := by simp [h, hl]
theorem seq_while (ρ' : Rho) (hl : sWhile c b n ρ = .nx ρ') : sSeq (sWhile c b) t n ρ = t n ρ' := by simp [hl]
theorem seq_frz : sFrz i a n ρ = a n (frzS i ρ) := rfl
theorem seq_ret (s : Sl) (h : f ρ = .ok s) : sRet f n ρ = .rt s := by simp [h]
theorem seq_nx (ρ' : Rho) (h : a n ρ = .nx ρ') : sSeq a t n ρ = t n ρ' := by simp [h]
end

/-! ### == -/
theorem toPys_ints : ∀ is : List Int, toPys (is.map .int) = some (is.map .int)
  | [] => rfl
  | i :: is => by
    rw [List.map_cons]
    unfold toPys
    rw [toPys_ints is]
    rfl
theorem lay_ints : ∀ is : List Int, PyData.canLayAll0 (is.map .int) = true ∧ PyData.depthAll (is.map .int) = 0
  | [] => ⟨rfl, rfl⟩
  | i :: is => by
    obtain ⟨h1, h2⟩ := lay_ints is
    rw [List.map_cons]
    refine ⟨?_, ?_⟩
    · unfold PyData.canLayAll0; rw [h1]; rfl
    · unfold PyData.depthAll; rw [h2]; rfl
theorem eqv_ints : ∀ is js : List Int, PyData.eqvAll (is.map .int) (js.map .int) = decide (is = js)
  | [], [] => rfl
  | [], _ :: _ => rfl
  | _ :: _, [] => rfl
  | i :: is, j :: js => by
    rw [List.map_cons, List.map_cons]
    unfold PyData.eqvAll
    rw [eqv_ints is js]
    have e : PyData.eqv (.int i) (.int j) = decide (i = j) := by unfold PyData.eqv; exact Bool.beq_eq_decide_eq i j
    rw [e]
    by_cases h : i = j <;> by_cases h2 : is = js <;> simp [h, h2]
theorem eqR_lst (is js : List Int) : eqR (.lst (is.map .int)) (.lst (js.map .int)) = some (decide (is = js)) := by
  obtain ⟨h1, h2⟩ := lay_ints is
  obtain ⟨h3, h4⟩ := lay_ints js
  unfold eqR toPy
  rw [toPys_ints, toPys_ints]
  have s1 : ∀ xs : List Int, PyData.canLayAll0 (xs.map .int) = true → PyData.depthAll (xs.map .int) = 0 → SeqAt.shaped (.list (xs.map .int)) = true := fun xs a b => by
    unfold SeqAt.shaped PyData.canLay0 PyData.depth
    rw [a, b]; rfl
  show (if SeqAt.shaped (.list (is.map .int)) && SeqAt.shaped (.list (js.map .int)) then some (PyData.eqv (.list (is.map .int)) (.list (js.map .int))) else none) = _
  rw [s1 is h1 h2, s1 js h3 h4]
  show some (PyData.eqv _ _) = _
  unfold PyData.eqv
  rw [eqv_ints]
theorem eqR_tup (is js : List Int) : eqR (.tup (is.map .int)) (.tup (js.map .int)) = some (decide (is = js)) := by
  obtain ⟨h1, h2⟩ := lay_ints is
  obtain ⟨h3, h4⟩ := lay_ints js
  unfold eqR toPy
  rw [toPys_ints, toPys_ints]
  have s1 : ∀ xs : List Int, PyData.canLayAll0 (xs.map .int) = true → PyData.depthAll (xs.map .int) = 0 → SeqAt.shaped (.tuple (xs.map .int)) = true := fun xs a b => by
    unfold SeqAt.shaped PyData.canLay0 PyData.depth
    rw [a, b]; rfl
  show (if SeqAt.shaped (.tuple (is.map .int)) && SeqAt.shaped (.tuple (js.map .int)) then some (PyData.eqv (.tuple (is.map .int)) (.tuple (js.map .int))) else none) = _
  rw [s1 is h1 h2, s1 js h3 h4]
  show some (PyData.eqv _ _) = _
  unfold PyData.eqv
  rw [eqv_ints]
@[simp] theorem eqR_int (i j : Int) : eqR (.int i) (.int j) = some (decide (i = j)) := by
  show (if SeqAt.shaped (.int i) && SeqAt.shaped (.int j) then some (PyData.eqv (.int i) (.int j)) else none) = _
  have s1 : ∀ i : Int, SeqAt.shaped (.int i) = true := fun i => by unfold SeqAt.shaped PyData.canLay0 PyData.depth; rfl
  rw [s1, s1]
  show some (PyData.eqv _ _) = _
  unfold PyData.eqv
  rw [Bool.beq_eq_decide_eq]
@[simp] theorem eqR_bl (i j : Bool) : eqR (.bl i) (.bl j) = some (decide (i = j)) := by
  cases i <;> cases j <;> decide +kernel
theorem eqR_tup2 (a b c d : Int) : eqR (.tup [.int a, .int b]) (.tup [.int c, .int d]) = some (decide ([a, b] = [c, d])) := eqR_tup [a, b] [c, d]
theorem eqR_tup4 (a b c d e f g h : Int) : eqR (.tup [.int a, .int b, .int c, .int d]) (.tup [.int e, .int f, .int g, .int h]) = some (decide ([a, b, c, d] = [e, f, g, h])) := eqR_tup [a, b, c, d] [e, f, g, h]

/-! ### sizes in bits, for the guards of `*` -/
def Sz (k : Nat) (i : Int) : Prop := i.natAbs < 2 ^ k
section
variable {a b : Nat} {i j : Int}
theorem Sz.mono (h : Sz a i) (hb : a ≤ b) : Sz b i := Nat.lt_of_lt_of_le h (Nat.pow_le_pow_right (by decide) hb)
theorem Sz.mul (h : Sz a i) (g : Sz b j) : Sz (a + b) (i * j) := by
  unfold Sz
  rw [Int.natAbs_mul, Nat.pow_add]
  exact Nat.mul_lt_mul'' h g
theorem Sz.add (h : Sz a i) (g : Sz b j) : Sz (max a b + 1) (i + j) := by
  have h1 : Sz (max a b) i := h.mono (Nat.le_max_left a b)
  have h2 : Sz (max a b) j := g.mono (Nat.le_max_right a b)
  unfold Sz at *
  rw [Nat.pow_succ]
  omega
theorem Sz.neg (h : Sz a i) : Sz a (-i) := by unfold Sz at *; rw [Int.natAbs_neg]; exact h
theorem Sz.sub (h : Sz a i) (g : Sz b j) : Sz (max a b + 1) (i - j) := by rw [Int.sub_eq_add_neg]; exact h.add g.neg
theorem Sz.lit (h : i.natAbs < 18446744073709551616) : Sz 64 i := h
theorem Sz.of (k : Nat) (h1 : -((2 ^ k : Nat) : Int) < i) (h2 : i < ((2 ^ k : Nat) : Int)) : Sz k i := natAbs_lt h1 h2
theorem Sz.emod (h : Sz b j) (h0 : 0 < j) : Sz b (i % j) := by
  have h1 := Int.emod_nonneg i (show j ≠ 0 by omega)
  have h2 := Int.emod_lt_of_pos i h0
  unfold Sz at *
  omega
theorem Sz.bits (h : Sz a i) (h0 : 0 < a := by decide) : Builtin.Int.intBits i ≤ a := intBits_lt h h0
theorem mulOk_sz (h : Sz a i) (g : Sz b j) (hb : a + b ≤ 134217726) : mulOk i j = true := by
  have h1 : Sz (a + 1) i := h.mono (Nat.le_succ a)
  have g1 : Sz (b + 1) j := g.mono (Nat.le_succ b)
  exact mulOk_of h1 g1 (Nat.succ_pos a) (Nat.succ_pos b) (by omega)
end

/-! ### single steps of expressions -/
section
variable {g : D → D → R D} {g1 : D → R D} {gl : List D → R D} {f h : Rho → R D} {m : Rho → R Sl} {fs : Rho → R (List D)} {mir : List D → R Sl} {ρ : Rho} {a b d : D} {ds : List D} {r : R D} {rs : R Sl} {s : Sl} {c c' : Rho → R Bool} {k : Bool} {rb : R Bool}
theorem op2_ok (hf : f ρ = .ok a) (hh : h ρ = .ok b) (hg : g a b = r) : op2 g f h ρ = r := by simp [hf, hh, hg]
theorem op1_ok (hf : f ρ = .ok a) (hg : g1 a = r) : op1 g1 f ρ = r := by simp [hf, hg]
theorem opL_ok (hf : fs ρ = .ok ds) (hg : gl ds = r) : opL gl fs ρ = r := by simp [hf, hg]
theorem toF_ok (hf : f ρ = .ok d) (hd : flatD d = true := by rfl) : toF f ρ = .ok (.fz d) := by
  show (f ρ).bind _ = _
  rw [hf, R.bind_ok, if_pos hd]
theorem toV_fz (hf : m ρ = .ok (.fz d)) : toV m ρ = .ok d := by simp [hf]
theorem toV_ow (hf : m ρ = .ok (.ow d)) : toV m ρ = .ok d := by simp [hf]
theorem callF_ok (hf : fs ρ = .ok ds) (e : mir ds = rs) : callF mir fs ρ = rs := by simp [hf, e]
theorem consA_ok (hf : f ρ = .ok d) (hs : fs ρ = .ok ds) : consA f fs ρ = .ok (d :: ds) := by simp [hf, hs]
theorem orT_no (h1 : c ρ = .ok false) (h2 : c' ρ = rb) : orT c c' ρ = rb := by simp [h1, h2]
theorem orT_yes (h1 : c ρ = .ok true) : orT c c' ρ = .ok true := by simp [h1]
theorem andT_yes (h1 : c ρ = .ok true) (h2 : c' ρ = rb) : andT c c' ρ = rb := by simp [h1, h2]
theorem andT_no (h1 : c ρ = .ok false) : andT c c' ρ = .ok false := by simp [h1]
theorem notT_ok (h1 : c ρ = .ok k) : notT c ρ = .ok (!k) := by simp [h1]
theorem toT_ok (h1 : f ρ = .ok (.bl k)) : toT f ρ = .ok k := by simp [h1]
theorem tupF_ok (hf : fs ρ = .ok ds) (hl : ds.length ≤ 100000) : tupF fs ρ = .ok (.fz (.tup ds)) := by
  have : ds.length ≤ sizeLine := by rw [sizeLine_eq]; omega
  simp [hf, this]
theorem lstF_ok (hf : fs ρ = .ok ds) (hl : ds.length ≤ 100000) : lstF fs ρ = .ok (.ow (.lst ds)) := by
  have : ds.length ≤ sizeLine := by rw [sizeLine_eq]; omega
  simp [hf, this]
theorem eqD_ok (h : eqR a b = some k) : eqD a b = .ok (.bl k) := by simp [h]
theorem neD_ok (h : eqR a b = some k) : neD a b = .ok (.bl !k) := by simp [h]
theorem ifT_no {x y : Sem} {n : Nat} (h : c ρ = .ok false) : sIf c x y n ρ = y n ρ := by simp [h]
theorem ifT_yes {x y : Sem} {n : Nat} (h : c ρ = .ok true) : sIf c x y n ρ = x n ρ := by simp [h]
end

/-! ### statement by statement, the slots in their plain form -/
section
variable {i j l : Nat} {f f' : Rho → R Sl} {fs : Rho → R (List D)} {t a b : Sem} {n : Nat} {ρ : Rho} {c : Rho → R Bool} {g : D → Rho → R Rho} {it : Rho → R (List D)} {ds : List D} {d : D} {o : Out}
theorem st_set (s : Sl) (ρ' : Rho) (h : f ρ = .ok s) (hρ : ρ.set i (frzL s) = ρ') (k : t n ρ' = o) : sSeq (sSet i f) t n ρ = o := by rw [← k, ← hρ]; exact seq_set s h
theorem st_own (s : Sl) (ρ' : Rho) (h : f ρ = .ok s) (hρ : ρ.set i s = ρ') (k : t n ρ' = o) : sSeq (sOwn i f) t n ρ = o := by rw [← k, ← hρ]; exact seq_own s h
theorem st_asg (d : D) (ρ' : Rho) (h : toV f ρ = .ok d) (hρ : g d ρ = .ok ρ') (k : t n ρ' = o) : sSeq (sAsg f g) t n ρ = o := by rw [← k]; exact seq_asg d ρ' h hρ
theorem st_par (d e : D) (ρ' : Rho) (h : fs ρ = .ok [d, e]) (hρ : (ρ.set i (.fz d)).set j (.fz e) = ρ') (k : t n ρ' = o) : sSeq (sPar i j fs) t n ρ = o := by rw [← k, ← hρ]; exact seq_par d e h
theorem st_par2 {u v : Bool} (s s' : Sl) (ρ' : Rho) (h : f ρ = .ok s) (h' : f' ρ = .ok s') (hρ : (ρ.set i (keepS u s)).set j (keepS v s') = ρ') (k : t n ρ' = o) : sSeq (sPar2 i j u v f f') t n ρ = o := by rw [← k, ← hρ]; exact seq_par2 s s' h h'
theorem st_par3 (d e e' : D) (ρ' : Rho) (h : fs ρ = .ok [d, e, e']) (hρ : ((ρ.set i (.fz d)).set j (.fz e)).set l (.fz e') = ρ') (k : t n ρ' = o) : sSeq (sPar3 i j l fs) t n ρ = o := by rw [← k, ← hρ]; exact seq_par3 d e e' h
theorem st_if0 (h : c ρ = .ok false) (k : t n ρ = o) : sSeq (sIf c a sNil) t n ρ = o := by rw [← k]; exact seq_if0 h
theorem st_ifT (h : c ρ = .ok true) (k : oSeq (a n ρ) (t n) = o) : sSeq (sIf c a b) t n ρ = o := by rw [← k]; exact seq_ifT h
theorem st_ifF (h : c ρ = .ok false) (k : oSeq (b n ρ) (t n) = o) : sSeq (sIf c a b) t n ρ = o := by rw [← k]; exact seq_ifF h
theorem st_for (ds : List D) (ρ' : Rho) (h : it ρ = .ok ds) (hl : sLoop g b n ds ρ = .nx ρ') (k : t n ρ' = o) : sSeq (sFor it g b) t n ρ = o := by rw [← k]; exact seq_for ds ρ' h hl
theorem st_while (ρ' : Rho) (hl : sWhile c b n ρ = .nx ρ') (k : t n ρ' = o) : sSeq (sWhile c b) t n ρ = o := by rw [← k]; exact seq_while ρ' hl
theorem st_nx (ρ' : Rho) (h : a n ρ = .nx ρ') (k : t n ρ' = o) : sSeq a t n ρ = o := by rw [← k]; exact seq_nx ρ' h
theorem st_ret (s : Sl) (h : f ρ = .ok s) : sRet f n ρ = .rt s := seq_ret s h
theorem st_retS (s : Sl) (h : f ρ = .ok s) : sSeq (sRet f) t n ρ = .rt s := by simp [h]
/-- an if's branch that ends plainly -/
theorem oSeq_of {o' : Out} (ρ' : Rho) {k : Rho → Out} (h : o' = .nx ρ') (e : k ρ' = o) : oSeq o' k = o := by rw [h]; exact e
end

/-! ### comprehensions -/
theorem lcL_map {g : D → Rho → R Rho} {f : Rho → R Sl} {ρ : Rho} (F : D → D) : ∀ ds : List D, (∀ d ∈ ds, ∃ ρ1, g d ρ = .ok ρ1 ∧ toV f ρ1 = .ok (F d)) → lcL g yesT f ρ ds = .ok (ds.map F)
  | [], _ => rfl
  | d :: ds, h => by
    obtain ⟨ρ1, h1, h2⟩ := h d List.mem_cons_self
    have ih := lcL_map F ds fun x hx => h x (List.mem_cons_of_mem _ hx)
    unfold lcL
    rw [h1, nox_ok, R.bind_ok, show yesT ρ1 = .ok true from rfl, nox_ok, R.bind_ok, if_pos rfl, h2, nox_ok, R.bind_ok, ih, R.bind_ok, List.map_cons]
/-- .. with a test -/
theorem lcL_filter {g : D → Rho → R Rho} {c : Rho → R Bool} {f : Rho → R Sl} {ρ : Rho} (p : D → Bool) (F : D → D) : ∀ ds : List D, (∀ d ∈ ds, ∃ ρ1, g d ρ = .ok ρ1 ∧ c ρ1 = .ok (p d) ∧ (p d = true → toV f ρ1 = .ok (F d))) → lcL g c f ρ ds = .ok ((ds.filter p).map F)
  | [], _ => rfl
  | d :: ds, h => by
    obtain ⟨ρ1, h1, h2, h3⟩ := h d List.mem_cons_self
    have ih := lcL_filter p F ds fun x hx => h x (List.mem_cons_of_mem _ hx)
    unfold lcL
    rw [h1, nox_ok, R.bind_ok, h2, nox_ok, R.bind_ok]
    cases e : p d with
    | true => rw [if_pos rfl, h3 e, nox_ok, R.bind_ok, ih, R.bind_ok, List.filter_cons_of_pos e, List.map_cons]
    | false => rw [if_neg Bool.false_ne_true, ih, List.filter_cons_of_neg (by rw [e]; decide)]
theorem asBls_map {α : Type} (h : α → Bool) : ∀ l : List α, asBls (l.map fun x => .bl (h x)) = some (l.map h)
  | [] => rfl
  | x :: l => by
    rw [List.map_cons, List.map_cons]
    show (asBls (l.map fun x => .bl (h x))).map (h x :: ·) = _
    rw [asBls_map h l]; rfl
theorem cutG_mid {α : Type} {xs : List α} {i j : Nat} (h : i ≤ j) (hj : j ≤ xs.length) : cutG xs (some (i : Int)) (some (j : Int)) = (xs.take j).drop i := by
  unfold cutG
  rw [show HT.sIx xs.length 0 (some (i : Int)) = min i xs.length from HT.sIx_nat _ _ _, show HT.sIx xs.length xs.length (some (j : Int)) = min j xs.length from HT.sIx_nat _ _ _, Nat.min_eq_left (Nat.le_trans h hj), Nat.min_eq_left hj, List.drop_take]
end Mp

namespace RL
open PySem PySem.Spec PyProof.Rows L2 Mp
open Mp (D Sem)
noncomputable def C1__digits : Rho → R Bool :=
  toT (op2 gtD (rdV 0) (cV (.int 0)))
noncomputable def L1__digits : Sem :=
  sSeq (sApp 1 (toF (op2 modD (rdV 0) (cV (.int 2)))))
  (sSet 0 (toF (op2 divD (rdV 0) (cV (.int 2)))))
noncomputable def B__digits : Sem :=
  sSeq (sOwn 1 (lstF (nilA)))
  (sSeq (sWhile C1__digits L1__digits)
  (sRet (revF (rdV 1))))
noncomputable def mi__digits : List D → R Sl := fun ds => outR (B__digits 1000000 (startN 2 ds))
noncomputable def B__law_cell : Sem :=
  sSeq (sIf (toT (op2 ltD (rdV 1) (opL lenD (consA (rdV 0) (nilA)))))
  (sRet (ixF (rdV 0) (rdV 1)))
  (sNil))
  (sRet (toF (cV (.int 0))))
noncomputable def mi__law_cell : List D → R Sl := fun ds => outR (B__law_cell 1000000 (startN 2 ds))
noncomputable def L1__law_common : Sem :=
  sIf (toT (op2 gtD (rdV 1) (cV (.int 0))))
  (sPar 0 1 (consA (toV (rdF 1)) (consA (toV (toF (op2 subD (rdV 0) (op2 mulD (op2 divD (rdV 0) (rdV 1)) (rdV 1))))) (nilA))))
  (sNil)
noncomputable def B__law_common : Sem :=
  sSeq (sFor (rng1 (consA (cV (.int 400)) (nilA))) (gN 2) L1__law_common)
  (sRetV 0)
noncomputable def mi__law_common : List D → R Sl := fun ds => outR (B__law_common 1000000 (startN 3 ds))
noncomputable def B__law_divides : Sem :=
  sSeq (sIf (toT (op2 eqD (rdV 0) (cV (.int 0))))
  (sRet (toF (op2 eqD (rdV 1) (cV (.int 0)))))
  (sNil))
  (sRet (toF (op2 eqD (op2 modD (opL intD (consA (rdV 1) (nilA))) (rdV 0)) (cV (.int 0)))))
noncomputable def mi__law_divides : List D → R Sl := fun ds => outR (B__law_divides 1000000 (startN 2 ds))
noncomputable def B__law_is_integer : Sem :=
  sRet (toF (andV (op1 (isT "int") (rdV 0)) (notV (op1 (isT "bool") (rdV 0)))))
noncomputable def mi__law_is_integer : List D → R Sl := fun ds => outR (B__law_is_integer 1000000 (startN 1 ds))
noncomputable def L1__law_pairs : Sem :=
  sSeq (sPar 4 5 (consA (toV (ixF (rdV 2) (op1 negD (cV (.int 2))))) (consA (toV (ixF (rdV 2) (op1 negD (cV (.int 1))))) (nilA))))
  (sApp 2 (tupF (consA (toV (toF (op2 subD (op2 mulD (op2 mulD (cV (.int 2)) (rdV 0)) (op2 ixD (rdV 5) (cV (.int 0)))) (op2 ixD (rdV 4) (cV (.int 0)))))) (consA (toV (toF (op2 subD (op2 mulD (op2 mulD (cV (.int 2)) (rdV 0)) (op2 ixD (rdV 5) (cV (.int 1)))) (op2 ixD (rdV 4) (cV (.int 1)))))) (nilA)))))
noncomputable def B__law_pairs : Sem :=
  sSeq (sOwn 2 (lstF (consA (toV (tupF (consA (toV (toF (cV (.int 1)))) (consA (toV (toF (cV (.int 0)))) (nilA))))) (consA (toV (tupF (consA (toV (rdF 0)) (consA (toV (toF (cV (.int 1)))) (nilA))))) (nilA)))))
  (sSeq (sFor (rng1 (consA (rdV 1) (nilA))) (gN 3) L1__law_pairs)
  (sRet (cutF (rdV 2) (oNo) (oSo (rdV 1)))))
noncomputable def mi__law_pairs : List D → R Sl := fun ds => outR (B__law_pairs 1000000 (startN 6 ds))
noncomputable def B_added : Sem :=
  sSeq (sAsg (rdF 0) (gTp 2 (gCn (gN 3) (gCn (gN 4) (gNl)))))
  (sSeq (sAsg (rdF 1) (gTp 2 (gCn (gN 5) (gCn (gN 6) (gNl)))))
  (sRet (tupF (consA (toV (toF (op2 addD (op2 mulD (rdV 3) (rdV 5)) (op2 mulD (op2 mulD (op2 subD (op2 mulD (rdV 2) (rdV 2)) (cV (.int 1))) (rdV 4)) (rdV 6))))) (consA (toV (toF (op2 addD (op2 mulD (rdV 3) (rdV 6)) (op2 mulD (rdV 4) (rdV 5))))) (nilA))))))
noncomputable def mi_added : List D → R Sl := fun ds => outR (B_added 1000000 (startN 7 ds))
noncomputable def B_is_whole : Sem :=
  sRet (toF (andV (op1 (isT "int") (rdV 0)) (notV (op1 (isT "bool") (rdV 0)))))
noncomputable def mi_is_whole : List D → R Sl := fun ds => outR (B_is_whole 1000000 (startN 1 ds))
noncomputable def M1_index_of : Rho → R Sl :=
  callF mi_is_whole (consA (toV (rdF 7)) (nilA))
noncomputable def C1_index_of : Rho → R Bool :=
  toT (op2 ltD (rdV 5) (rdV 4))
noncomputable def L1_index_of : Sem :=
  sSeq (sPar 5 6 (consA (toV (rdF 6)) (consA (toV (toF (op2 subD (op2 mulD (op2 mulD (cV (.int 2)) (rdV 1)) (rdV 6)) (rdV 5)))) (nilA))))
  (sAug 2 iaddD (cV (.int 1)))
noncomputable def B_index_of : Sem :=
  sSeq (sIf (orT (notT (toT (op1 (isT "tuple") (rdV 0)))) (orT (toT (op2 neD (opL lenD (consA (rdV 0) (nilA))) (cV (.int 2)))) (notT (toT (opL allD (consA (toV (lcF (seqV (rdV 0)) (gN 7) yesT M1_index_of [7])) (nilA)))))))
  (sRet (toF (cV .non)))
  (sNil))
  (sSeq (sAsg (rdF 0) (gTp 2 (gCn (gN 3) (gCn (gN 4) (gNl)))))
  (sSeq (sIf (orT (toT (op2 ltD (rdV 3) (cV (.int 1)))) (orT (toT (op2 ltD (rdV 4) (cV (.int 0)))) (toT (op2 neD (op2 subD (op2 mulD (rdV 3) (rdV 3)) (op2 mulD (op2 mulD (op2 subD (op2 mulD (rdV 1) (rdV 1)) (cV (.int 1))) (rdV 4)) (rdV 4))) (cV (.int 1))))))
  (sRet (toF (cV .non)))
  (sNil))
  (sSeq (sSet 2 (toF (cV (.int 0))))
  (sSeq (sAsg (tupF (consA (toV (toF (cV (.int 0)))) (consA (toV (toF (cV (.int 1)))) (nilA)))) (gTp 2 (gCn (gN 5) (gCn (gN 6) (gNl)))))
  (sSeq (sWhile C1_index_of L1_index_of)
  (sRetV 2))))))
noncomputable def mi_index_of : List D → R Sl := fun ds => outR (B_index_of 1000000 (startN 8 ds))
noncomputable def L1_pair : Sem :=
  sSeq (sSet 2 (callF mi_added (consA (toV (rdF 2)) (consA (toV (rdF 2)) (consA (toV (rdF 1)) (nilA))))))
  (sIf (toT (op2 eqD (rdV 3) (cV (.int 1))))
  (sSet 2 (callF mi_added (consA (toV (rdF 2)) (consA (toV (tupF (consA (toV (rdF 1)) (consA (toV (toF (cV (.int 1)))) (nilA))))) (consA (toV (rdF 1)) (nilA))))))
  (sNil))
noncomputable def B_pair : Sem :=
  sSeq (sSet 2 (tupF (consA (toV (toF (cV (.int 1)))) (consA (toV (toF (cV (.int 0)))) (nilA)))))
  (sSeq (sFor (seqI (callF mi__digits (consA (toV (rdF 0)) (nilA)))) (gN 3) L1_pair)
  (sRetV 2))
noncomputable def mi_pair : List D → R Sl := fun ds => outR (B_pair 1000000 (startN 4 ds))
noncomputable def L1_pair_rest : Sem :=
  sSeq (sAsg (callF mi_added (consA (toV (rdF 3)) (consA (toV (rdF 3)) (consA (toV (rdF 1)) (nilA))))) (gTp 2 (gCn (gN 5) (gCn (gN 6) (gNl)))))
  (sSeq (sIf (toT (op2 eqD (rdV 4) (cV (.int 1))))
  (sAsg (callF mi_added (consA (toV (tupF (consA (toV (toF (op2 modD (rdV 5) (rdV 2)))) (consA (toV (toF (op2 modD (rdV 6) (rdV 2)))) (nilA))))) (consA (toV (tupF (consA (toV (rdF 1)) (consA (toV (toF (cV (.int 1)))) (nilA))))) (consA (toV (rdF 1)) (nilA))))) (gTp 2 (gCn (gN 5) (gCn (gN 6) (gNl)))))
  (sNil))
  (sSet 3 (tupF (consA (toV (toF (op2 modD (rdV 5) (rdV 2)))) (consA (toV (toF (op2 modD (rdV 6) (rdV 2)))) (nilA))))))
noncomputable def B_pair_rest : Sem :=
  sSeq (sSet 3 (tupF (consA (toV (toF (op2 modD (cV (.int 1)) (rdV 2)))) (consA (toV (toF (cV (.int 0)))) (nilA)))))
  (sSeq (sFor (seqI (callF mi__digits (consA (toV (rdF 0)) (nilA)))) (gN 4) L1_pair_rest)
  (sRetV 3))
noncomputable def mi_pair_rest : List D → R Sl := fun ds => outR (B_pair_rest 1000000 (startN 7 ds))
noncomputable def C1_rank : Rho → R Bool :=
  toT (op2 neD (rdV 3) (cV (.int 0)))
noncomputable def L1_rank : Sem :=
  sSeq (sPar 3 4 (consA (toV (rdF 4)) (consA (toV (toF (op2 modD (op2 subD (op2 mulD (op2 mulD (cV (.int 2)) (rdV 0)) (rdV 4)) (rdV 3)) (rdV 1)))) (nilA))))
  (sAug 2 iaddD (cV (.int 1)))
noncomputable def B_rank : Sem :=
  sSeq (sSet 2 (toF (cV (.int 1))))
  (sSeq (sPar 3 4 (consA (toV (toF (op2 modD (cV (.int 1)) (rdV 1)))) (consA (toV (toF (op2 modD (op2 mulD (cV (.int 2)) (rdV 0)) (rdV 1)))) (nilA))))
  (sSeq (sWhile C1_rank L1_rank)
  (sRetV 2)))
noncomputable def mi_rank : List D → R Sl := fun ds => outR (B_rank 1000000000000 (startN 5 ds))
noncomputable def B_taken : Sem :=
  sSeq (sAsg (rdF 0) (gTp 2 (gCn (gN 3) (gCn (gN 4) (gNl)))))
  (sSeq (sAsg (rdF 1) (gTp 2 (gCn (gN 5) (gCn (gN 6) (gNl)))))
  (sRet (tupF (consA (toV (toF (op2 subD (op2 mulD (rdV 3) (rdV 5)) (op2 mulD (op2 mulD (op2 subD (op2 mulD (rdV 2) (rdV 2)) (cV (.int 1))) (rdV 4)) (rdV 6))))) (consA (toV (toF (op2 subD (op2 mulD (rdV 4) (rdV 5)) (op2 mulD (rdV 3) (rdV 6))))) (nilA))))))
noncomputable def mi_taken : List D → R Sl := fun ds => outR (B_taken 1000000 (startN 7 ds))
end RL

namespace K33
open PySem PySem.Spec PyProof.Rows L2 Mp
open Mp (D Sem)
open RL

def topS (i : Nat) : Stmt := PySem.Challenge.pw_runroots_k33_what_divides_a_member.main.body.getD i (.Pass ⟨0, 0, 0, 0⟩)
abbrev s__law_pairs : Stmt := topS 10
abbrev N__law_pairs : List Str := ["_law_a", "_law_count", "_law_found", "_law_k", "_law_one", "_law_two"]
theorem sc__law_pairs : FnScope N__law_pairs ["_law_a", "_law_count"] (defScope s__law_pairs) := ⟨rfl, rfl, rfl, by decide +kernel, rfl, by decide +kernel, by decide +kernel⟩
abbrev s_rank : Stmt := topS 4
abbrev N_rank : List Str := ["a", "m", "index", "here", "following"]
theorem sc_rank : FnScope N_rank ["a", "m"] (defScope s_rank) := ⟨rfl, rfl, rfl, by decide +kernel, rfl, by decide +kernel, by decide +kernel⟩
abbrev s__digits : Stmt := topS 2
abbrev N__digits : List Str := ["n", "found"]
theorem sc__digits : FnScope N__digits ["n"] (defScope s__digits) := ⟨rfl, rfl, rfl, by decide +kernel, rfl, by decide +kernel, by decide +kernel⟩
abbrev s_added : Stmt := topS 1
abbrev N_added : List Str := ["first", "second", "a", "x", "y", "u", "v"]
theorem sc_added : FnScope N_added ["first", "second", "a"] (defScope s_added) := ⟨rfl, rfl, rfl, by decide +kernel, rfl, by decide +kernel, by decide +kernel⟩
abbrev s_pair : Stmt := topS 3
abbrev N_pair : List Str := ["n", "a", "found", "digit"]
theorem sc_pair : FnScope N_pair ["n", "a"] (defScope s_pair) := ⟨rfl, rfl, rfl, by decide +kernel, rfl, by decide +kernel, by decide +kernel⟩
abbrev s__law_cell : Stmt := topS 7
abbrev N__law_cell : List Str := ["_law_script", "_law_k"]
theorem sc__law_cell : FnScope N__law_cell ["_law_script", "_law_k"] (defScope s__law_cell) := ⟨rfl, rfl, rfl, by decide +kernel, rfl, by decide +kernel, by decide +kernel⟩
abbrev s__law_is_integer : Stmt := topS 6
abbrev N__law_is_integer : List Str := ["_law_actual"]
theorem sc__law_is_integer : FnScope N__law_is_integer ["_law_actual"] (defScope s__law_is_integer) := ⟨rfl, rfl, rfl, by decide +kernel, rfl, by decide +kernel, by decide +kernel⟩
abbrev s__law_divides : Stmt := topS 11
abbrev N__law_divides : List Str := ["_law_small", "_law_great"]
theorem sc__law_divides : FnScope N__law_divides ["_law_small", "_law_great"] (defScope s__law_divides) := ⟨rfl, rfl, rfl, by decide +kernel, rfl, by decide +kernel, by decide +kernel⟩
abbrev s__law_common : Stmt := topS 12
abbrev N__law_common : List Str := ["_law_x", "_law_y", "_law_k"]
theorem sc__law_common : FnScope N__law_common ["_law_x", "_law_y"] (defScope s__law_common) := ⟨rfl, rfl, rfl, by decide +kernel, rfl, by decide +kernel, by decide +kernel⟩
abbrev s_law : Stmt := topS 13
abbrev N_law : List Str := ["_law_script", "_law_number", "_law_a", "_law_k", "_law_pairs_here", "_law_found", "_law_place", "_law_here", "_law_power", "_law_m", "_law_n", "_law_x", "_law_y", "_law_one"]
theorem sc_law : FnScope N_law ["_law_script"] (defScope s_law) := ⟨rfl, rfl, rfl, by decide +kernel, rfl, by decide +kernel, by decide +kernel⟩

theorem ml__law_pairs : ∀ ds : List D, ds.length = 2 → mi__law_pairs ds = .no ∨ RunsTo B__law_pairs N__law_pairs ds (mi__law_pairs ds) := fun ds _ => .inr ⟨1000000, rfl⟩

theorem d__law_pairs {P : Program} {w : World} {K : PySem.W.Frag} {mg : Str → Option Value} {base : Heap} {f : Addr} {fd : FuncData} (F : Fun K "_law_pairs" "_law_pairs" s__law_pairs f fd) (gm : mg "_law_pairs" = some (.ref f)) (b : Binds K fd ["_law_a", "_law_count"] []) (z_range : mg "range" = none) :
    FnM P w K mg base "_law_pairs" 1 2 mi__law_pairs := by
  refine fnm_of (s := B__law_pairs) F sc__law_pairs gm b rfl (fun cdv A outer s0 H E hr => ?_) ml__law_pairs
  have tk : Takes (cxOf (L2.CX P w) P w K mg base N__law_pairs "_law_pairs" (defScope s__law_pairs) f cdv A outer s0 H E) (fun cls d _ H => E cls d H) := takes_of rfl rfl rfl rfl
  have hp : PassesOwn (model P w) (A.deeper (envOfC "_law_pairs" (defScope s__law_pairs) s0.heap.objs.size f cdv)) (cxOf (L2.CX P w) P w K mg base N__law_pairs "_law_pairs" (defScope s__law_pairs) f cdv A outer s0 H E).env (cxOf (L2.CX P w) P w K mg base N__law_pairs "_law_pairs" (defScope s__law_pairs) f cdv A outer s0 H E).xe := passes_of (X := cxOf (L2.CX P w) P w K mg base N__law_pairs "_law_pairs" (defScope s__law_pairs) f cdv A outer s0 H E) rfl
  have nd := sc__law_pairs.nd
  have hu := hr.units
  exact mss_cons (ms_own 2 nd (me_lst (ma_cons (me_tup (ma_cons (me_of (mv_int)) (ma_cons (me_of (mv_int)) (ma_nil)))) (ma_cons (me_tup (ma_cons (me_v 0) (ma_cons (me_of (mv_int)) (ma_nil)))) (ma_nil)))))
      (mss_cons (ms_for (s := L1__law_pairs) hp rfl (mi_range1 z_range (ml_cons (mv_v 1) (ml_nil))) (mg_name 3 nd) (gN_nx)
      (mss_cons (ms_par (i := 4) (j := 5) rfl nd (ma_cons (me_ix (mv_v 2) (mv_neg (mv_int))) (ma_cons (me_ix (mv_v 2) (mv_neg (mv_int))) (ma_nil))))
      (mss_one (ms_app 2 (me_tup (ma_cons (me_of (mv_sub (mv_mul (mv_mul (mv_int) (mv_v 0)) (mv_ix (mv_v 5) (mv_int))) (mv_ix (mv_v 4) (mv_int)))) (ma_cons (me_of (mv_sub (mv_mul (mv_mul (mv_int) (mv_v 0)) (mv_ix (mv_v 5) (mv_int))) (mv_ix (mv_v 4) (mv_int)))) (ma_nil))))))))
      (mss_one (ms_ret (me_slice (mv_v 2) (mo_none) (mo_some (mv_v 1))))))

theorem ml_rank : ∀ ds : List D, ds.length = 2 → mi_rank ds = .no ∨ RunsTo B_rank N_rank ds (mi_rank ds) := fun ds _ => .inr ⟨1000000000000, rfl⟩

theorem d_rank {P : Program} {w : World} {K : PySem.W.Frag} {mg : Str → Option Value} {base : Heap} {f : Addr} {fd : FuncData} (F : Fun K "rank" "rank" s_rank f fd) (gm : mg "rank" = some (.ref f)) (b : Binds K fd ["a", "m"] []) :
    FnM P w K mg base "rank" 1 2 mi_rank := by
  refine fnm_of (s := B_rank) F sc_rank gm b rfl (fun cdv A outer s0 H E hr => ?_) ml_rank
  have tk : Takes (cxOf (L2.CX P w) P w K mg base N_rank "rank" (defScope s_rank) f cdv A outer s0 H E) (fun cls d _ H => E cls d H) := takes_of rfl rfl rfl rfl
  have hp : PassesOwn (model P w) (A.deeper (envOfC "rank" (defScope s_rank) s0.heap.objs.size f cdv)) (cxOf (L2.CX P w) P w K mg base N_rank "rank" (defScope s_rank) f cdv A outer s0 H E).env (cxOf (L2.CX P w) P w K mg base N_rank "rank" (defScope s_rank) f cdv A outer s0 H E).xe := passes_of (X := cxOf (L2.CX P w) P w K mg base N_rank "rank" (defScope s_rank) f cdv A outer s0 H E) rfl
  have nd := sc_rank.nd
  have hu := hr.units
  exact mss_cons (ms_set 2 nd (me_of (mv_int)))
      (mss_cons (ms_par (i := 3) (j := 4) rfl nd (ma_cons (me_of (mv_mod (mv_int) (mv_v 1))) (ma_cons (me_of (mv_mod (mv_mul (mv_int) (mv_v 0)) (mv_v 1))) (ma_nil))))
      (mss_cons (ms_while (c := C1_rank) (s := L1_rank) hp (mt_ne hu (mv_v 3) (mv_int))
      (mss_cons (ms_par (i := 3) (j := 4) rfl nd (ma_cons (me_v 4) (ma_cons (me_of (mv_mod (mv_sub (mv_mul (mv_mul (mv_int) (mv_v 0)) (mv_v 4)) (mv_v 3)) (mv_v 1))) (ma_nil))))
      (mss_one (ms_aug 2 nd iop_add (sim_i0 (hi _)) iiD_nx (mv_int)))))
      (mss_one (ms_retV 2))))

theorem ml__digits : ∀ ds : List D, ds.length = 1 → mi__digits ds = .no ∨ RunsTo B__digits N__digits ds (mi__digits ds) := fun ds _ => .inr ⟨1000000, rfl⟩

theorem d__digits {P : Program} {w : World} {K : PySem.W.Frag} {mg : Str → Option Value} {base : Heap} {f : Addr} {fd : FuncData} (F : Fun K "_digits" "_digits" s__digits f fd) (gm : mg "_digits" = some (.ref f)) (b : Binds K fd ["n"] []) :
    FnM P w K mg base "_digits" 1 1 mi__digits := by
  refine fnm_of (s := B__digits) F sc__digits gm b rfl (fun cdv A outer s0 H E hr => ?_) ml__digits
  have tk : Takes (cxOf (L2.CX P w) P w K mg base N__digits "_digits" (defScope s__digits) f cdv A outer s0 H E) (fun cls d _ H => E cls d H) := takes_of rfl rfl rfl rfl
  have hp : PassesOwn (model P w) (A.deeper (envOfC "_digits" (defScope s__digits) s0.heap.objs.size f cdv)) (cxOf (L2.CX P w) P w K mg base N__digits "_digits" (defScope s__digits) f cdv A outer s0 H E).env (cxOf (L2.CX P w) P w K mg base N__digits "_digits" (defScope s__digits) f cdv A outer s0 H E).xe := passes_of (X := cxOf (L2.CX P w) P w K mg base N__digits "_digits" (defScope s__digits) f cdv A outer s0 H E) rfl
  have nd := sc__digits.nd
  have hu := hr.units
  exact mss_cons (ms_own 1 nd (me_lst (ma_nil)))
      (mss_cons (ms_while (c := C1__digits) (s := L1__digits) hp (mt_gt (mv_v 0) (mv_int))
      (mss_cons (ms_app 1 (me_of (mv_mod (mv_v 0) (mv_int))))
      (mss_one (ms_set 0 nd (me_of (mv_div (mv_v 0) (mv_int)))))))
      (mss_one (ms_ret (me_rev (mv_v 1)))))

theorem ml_added : ∀ ds : List D, ds.length = 3 → mi_added ds = .no ∨ RunsTo B_added N_added ds (mi_added ds) := fun ds _ => .inr ⟨1000000, rfl⟩

theorem d_added {P : Program} {w : World} {K : PySem.W.Frag} {mg : Str → Option Value} {base : Heap} {f : Addr} {fd : FuncData} (F : Fun K "added" "added" s_added f fd) (gm : mg "added" = some (.ref f)) (b : Binds K fd ["first", "second", "a"] []) :
    FnM P w K mg base "added" 1 3 mi_added := by
  refine fnm_of (s := B_added) F sc_added gm b rfl (fun cdv A outer s0 H E hr => ?_) ml_added
  have tk : Takes (cxOf (L2.CX P w) P w K mg base N_added "added" (defScope s_added) f cdv A outer s0 H E) (fun cls d _ H => E cls d H) := takes_of rfl rfl rfl rfl
  have hp : PassesOwn (model P w) (A.deeper (envOfC "added" (defScope s_added) s0.heap.objs.size f cdv)) (cxOf (L2.CX P w) P w K mg base N_added "added" (defScope s_added) f cdv A outer s0 H E).env (cxOf (L2.CX P w) P w K mg base N_added "added" (defScope s_added) f cdv A outer s0 H E).xe := passes_of (X := cxOf (L2.CX P w) P w K mg base N_added "added" (defScope s_added) f cdv A outer s0 H E) rfl
  have nd := sc_added.nd
  have hu := hr.units
  exact mss_cons (ms_asg (me_v 0) (mg_tup rfl (mgs_cons (mg_name 3 nd) (mgs_cons (mg_name 4 nd) (mgs_nil)))))
      (mss_cons (ms_asg (me_v 1) (mg_tup rfl (mgs_cons (mg_name 5 nd) (mgs_cons (mg_name 6 nd) (mgs_nil)))))
      (mss_one (ms_ret (me_tup (ma_cons (me_of (mv_add (mv_mul (mv_v 3) (mv_v 5)) (mv_mul (mv_mul (mv_sub (mv_mul (mv_v 2) (mv_v 2)) (mv_int)) (mv_v 4)) (mv_v 6)))) (ma_cons (me_of (mv_add (mv_mul (mv_v 3) (mv_v 6)) (mv_mul (mv_v 4) (mv_v 5)))) (ma_nil)))))))

theorem ml_pair : ∀ ds : List D, ds.length = 2 → mi_pair ds = .no ∨ RunsTo B_pair N_pair ds (mi_pair ds) := fun ds _ => .inr ⟨1000000, rfl⟩

theorem d_pair {P : Program} {w : World} {K : PySem.W.Frag} {mg : Str → Option Value} {base : Heap} {f : Addr} {fd : FuncData} (F : Fun K "pair" "pair" s_pair f fd) (gm : mg "pair" = some (.ref f)) (b : Binds K fd ["n", "a"] []) (G__digits : FnM P w K mg base "_digits" 1 1 mi__digits) (G_added : FnM P w K mg base "added" 1 3 mi_added) :
    FnM P w K mg base "pair" 2 2 mi_pair := by
  refine fnm_of (s := B_pair) F sc_pair gm b rfl (fun cdv A outer s0 H E hr => ?_) ml_pair
  have tk : Takes (cxOf (L2.CX P w) P w K mg base N_pair "pair" (defScope s_pair) f cdv A outer s0 H E) (fun cls d _ H => E cls d H) := takes_of rfl rfl rfl rfl
  have hp : PassesOwn (model P w) (A.deeper (envOfC "pair" (defScope s_pair) s0.heap.objs.size f cdv)) (cxOf (L2.CX P w) P w K mg base N_pair "pair" (defScope s_pair) f cdv A outer s0 H E).env (cxOf (L2.CX P w) P w K mg base N_pair "pair" (defScope s_pair) f cdv A outer s0 H E).xe := passes_of (X := cxOf (L2.CX P w) P w K mg base N_pair "pair" (defScope s_pair) f cdv A outer s0 H E) rfl
  have nd := sc_pair.nd
  have hu := hr.units
  exact mss_cons (ms_set 2 nd (me_tup (ma_cons (me_of (mv_int)) (ma_cons (me_of (mv_int)) (ma_nil)))))
      (mss_cons (ms_for (s := L1_pair) hp rfl (mi_seq (me_call G__digits tk (hr.mono (by decide)) (ma_cons (me_v 0) (ma_nil)) rfl (lenA_cons (lenA_nil)))) (mg_name 3 nd) (gN_nx)
      (mss_cons (ms_set 2 nd (me_call G_added tk (hr.mono (by decide)) (ma_cons (me_v 2) (ma_cons (me_v 2) (ma_cons (me_v 1) (ma_nil)))) rfl (lenA_cons (lenA_cons (lenA_cons (lenA_nil))))))
      (mss_one (ms_if (mt_eq hu (mv_v 3) (mv_int))
      (mss_one (ms_set 2 nd (me_call G_added tk (hr.mono (by decide)) (ma_cons (me_v 2) (ma_cons (me_tup (ma_cons (me_v 1) (ma_cons (me_of (mv_int)) (ma_nil)))) (ma_cons (me_v 1) (ma_nil)))) rfl (lenA_cons (lenA_cons (lenA_cons (lenA_nil)))))))
      (mss_nil)))))
      (mss_one (ms_retV 2)))

theorem ml__law_cell : ∀ ds : List D, ds.length = 2 → mi__law_cell ds = .no ∨ RunsTo B__law_cell N__law_cell ds (mi__law_cell ds) := fun ds _ => .inr ⟨1000000, rfl⟩

theorem d__law_cell {P : Program} {w : World} {K : PySem.W.Frag} {mg : Str → Option Value} {base : Heap} {f : Addr} {fd : FuncData} (F : Fun K "_law_cell" "_law_cell" s__law_cell f fd) (gm : mg "_law_cell" = some (.ref f)) (b : Binds K fd ["_law_script", "_law_k"] []) (z_len : mg "len" = none) :
    FnM P w K mg base "_law_cell" 1 2 mi__law_cell := by
  refine fnm_of (s := B__law_cell) F sc__law_cell gm b rfl (fun cdv A outer s0 H E hr => ?_) ml__law_cell
  have tk : Takes (cxOf (L2.CX P w) P w K mg base N__law_cell "_law_cell" (defScope s__law_cell) f cdv A outer s0 H E) (fun cls d _ H => E cls d H) := takes_of rfl rfl rfl rfl
  have hp : PassesOwn (model P w) (A.deeper (envOfC "_law_cell" (defScope s__law_cell) s0.heap.objs.size f cdv)) (cxOf (L2.CX P w) P w K mg base N__law_cell "_law_cell" (defScope s__law_cell) f cdv A outer s0 H E).env (cxOf (L2.CX P w) P w K mg base N__law_cell "_law_cell" (defScope s__law_cell) f cdv A outer s0 H E).xe := passes_of (X := cxOf (L2.CX P w) P w K mg base N__law_cell "_law_cell" (defScope s__law_cell) f cdv A outer s0 H E) rfl
  have nd := sc__law_cell.nd
  have hu := hr.units
  exact mss_cons (ms_if (mt_lt (mv_v 1) (mv_len z_len (ml_cons (mv_v 0) (ml_nil))))
      (mss_one (ms_ret (me_ix (mv_v 0) (mv_v 1))))
      (mss_nil))
      (mss_one (ms_ret (me_of (mv_int))))

theorem ml__law_is_integer : ∀ ds : List D, ds.length = 1 → mi__law_is_integer ds = .no ∨ RunsTo B__law_is_integer N__law_is_integer ds (mi__law_is_integer ds) := fun ds _ => .inr ⟨1000000, rfl⟩

theorem d__law_is_integer {P : Program} {w : World} {K : PySem.W.Frag} {mg : Str → Option Value} {base : Heap} {f : Addr} {fd : FuncData} (F : Fun K "_law_is_integer" "_law_is_integer" s__law_is_integer f fd) (gm : mg "_law_is_integer" = some (.ref f)) (b : Binds K fd ["_law_actual"] []) (z_isinstance : mg "isinstance" = none) (z_int : mg "int" = none) (z_bool : mg "bool" = none) :
    FnM P w K mg base "_law_is_integer" 1 1 mi__law_is_integer := by
  refine fnm_of (s := B__law_is_integer) F sc__law_is_integer gm b rfl (fun cdv A outer s0 H E hr => ?_) ml__law_is_integer
  have tk : Takes (cxOf (L2.CX P w) P w K mg base N__law_is_integer "_law_is_integer" (defScope s__law_is_integer) f cdv A outer s0 H E) (fun cls d _ H => E cls d H) := takes_of rfl rfl rfl rfl
  have hp : PassesOwn (model P w) (A.deeper (envOfC "_law_is_integer" (defScope s__law_is_integer) s0.heap.objs.size f cdv)) (cxOf (L2.CX P w) P w K mg base N__law_is_integer "_law_is_integer" (defScope s__law_is_integer) f cdv A outer s0 H E).env (cxOf (L2.CX P w) P w K mg base N__law_is_integer "_law_is_integer" (defScope s__law_is_integer) f cdv A outer s0 H E).xe := passes_of (X := cxOf (L2.CX P w) P w K mg base N__law_is_integer "_law_is_integer" (defScope s__law_is_integer) f cdv A outer s0 H E) rfl
  have nd := sc__law_is_integer.nd
  have hu := hr.units
  exact mss_one (ms_ret (me_of (mv_and ((mv_isi (T := "int") z_isinstance z_int (mv_v 0) (by decide +kernel))) (mv_one (mv_not ((mv_isi (T := "bool") z_isinstance z_bool (mv_v 0) (by decide +kernel))))))))

theorem ml__law_divides : ∀ ds : List D, ds.length = 2 → mi__law_divides ds = .no ∨ RunsTo B__law_divides N__law_divides ds (mi__law_divides ds) := fun ds _ => .inr ⟨1000000, rfl⟩

theorem d__law_divides {P : Program} {w : World} {K : PySem.W.Frag} {mg : Str → Option Value} {base : Heap} {f : Addr} {fd : FuncData} (F : Fun K "_law_divides" "_law_divides" s__law_divides f fd) (gm : mg "_law_divides" = some (.ref f)) (b : Binds K fd ["_law_small", "_law_great"] []) (z_int : mg "int" = none) :
    FnM P w K mg base "_law_divides" 1 2 mi__law_divides := by
  refine fnm_of (s := B__law_divides) F sc__law_divides gm b rfl (fun cdv A outer s0 H E hr => ?_) ml__law_divides
  have tk : Takes (cxOf (L2.CX P w) P w K mg base N__law_divides "_law_divides" (defScope s__law_divides) f cdv A outer s0 H E) (fun cls d _ H => E cls d H) := takes_of rfl rfl rfl rfl
  have hp : PassesOwn (model P w) (A.deeper (envOfC "_law_divides" (defScope s__law_divides) s0.heap.objs.size f cdv)) (cxOf (L2.CX P w) P w K mg base N__law_divides "_law_divides" (defScope s__law_divides) f cdv A outer s0 H E).env (cxOf (L2.CX P w) P w K mg base N__law_divides "_law_divides" (defScope s__law_divides) f cdv A outer s0 H E).xe := passes_of (X := cxOf (L2.CX P w) P w K mg base N__law_divides "_law_divides" (defScope s__law_divides) f cdv A outer s0 H E) rfl
  have nd := sc__law_divides.nd
  have hu := hr.units
  exact mss_cons (ms_if (mt_eq hu (mv_v 0) (mv_int))
      (mss_one (ms_ret (me_of (mv_eq hu (mv_v 1) (mv_int)))))
      (mss_nil))
      (mss_one (ms_ret (me_of (mv_eq hu (mv_mod (mv_intc z_int (ml_cons (mv_v 1) (ml_nil))) (mv_v 0)) (mv_int)))))

theorem ml__law_common : ∀ ds : List D, ds.length = 2 → mi__law_common ds = .no ∨ RunsTo B__law_common N__law_common ds (mi__law_common ds) := fun ds _ => .inr ⟨1000000, rfl⟩

theorem d__law_common {P : Program} {w : World} {K : PySem.W.Frag} {mg : Str → Option Value} {base : Heap} {f : Addr} {fd : FuncData} (F : Fun K "_law_common" "_law_common" s__law_common f fd) (gm : mg "_law_common" = some (.ref f)) (b : Binds K fd ["_law_x", "_law_y"] []) (z_range : mg "range" = none) :
    FnM P w K mg base "_law_common" 1 2 mi__law_common := by
  refine fnm_of (s := B__law_common) F sc__law_common gm b rfl (fun cdv A outer s0 H E hr => ?_) ml__law_common
  have tk : Takes (cxOf (L2.CX P w) P w K mg base N__law_common "_law_common" (defScope s__law_common) f cdv A outer s0 H E) (fun cls d _ H => E cls d H) := takes_of rfl rfl rfl rfl
  have hp : PassesOwn (model P w) (A.deeper (envOfC "_law_common" (defScope s__law_common) s0.heap.objs.size f cdv)) (cxOf (L2.CX P w) P w K mg base N__law_common "_law_common" (defScope s__law_common) f cdv A outer s0 H E).env (cxOf (L2.CX P w) P w K mg base N__law_common "_law_common" (defScope s__law_common) f cdv A outer s0 H E).xe := passes_of (X := cxOf (L2.CX P w) P w K mg base N__law_common "_law_common" (defScope s__law_common) f cdv A outer s0 H E) rfl
  have nd := sc__law_common.nd
  have hu := hr.units
  exact mss_cons (ms_for (s := L1__law_common) hp rfl (mi_range1 z_range (ml_cons (mv_int) (ml_nil))) (mg_name 2 nd) (gN_nx)
      (mss_one (ms_if (mt_gt (mv_v 1) (mv_int))
      (mss_one (ms_par (i := 0) (j := 1) rfl nd (ma_cons (me_v 1) (ma_cons (me_of (mv_sub (mv_v 0) (mv_mul (mv_div (mv_v 0) (mv_v 1)) (mv_v 1)))) (ma_nil)))))
      (mss_nil))))
      (mss_one (ms_retV 0))

noncomputable def M1_law : Rho → R Sl :=
  callF mi__law_divides (consA (toV (rdF 3)) (consA (toV (ixF (rdV 13) (cV (.int 1)))) (nilA)))
noncomputable def L1_law : Sem :=
  sIf (toT (op2 neD (toV (callF mi__law_divides (consA (toV (rdF 3)) (consA (toV (ixF (op2 ixD (rdV 4) (rdV 6)) (cV (.int 1)))) (nilA))))) (op2 eqD (op2 modD (opL intD (consA (rdV 6) (nilA))) (rdV 5)) (cV (.int 0)))))
  (sRet (toF (cV (.bl false))))
  (sNil)
noncomputable def L2_law : Sem :=
  sSeq (sAsg (ixF (rdV 4) (rdV 6)) (gTp 2 (gCn (gN 11) (gCn (gN 12) (gNl)))))
  (sSeq (sIf (orT (toT (op2 neD (toV (callF mi__law_divides (consA (toV (rdF 7)) (consA (toV (rdF 12)) (nilA))))) (op2 eqD (op2 modD (opL intD (consA (rdV 6) (nilA))) (rdV 9)) (cV (.int 0))))) (toT (op2 neD (op2 eqD (op2 modD (opL intD (consA (rdV 12) (nilA))) (cV (.int 2))) (cV (.int 0))) (op2 eqD (op2 modD (opL intD (consA (rdV 6) (nilA))) (cV (.int 2))) (cV (.int 0))))))
  (sRet (toF (cV (.bl false))))
  (sNil))
  (sSeq (sIf (toT (op2 neD (toV (callF mi__law_divides (consA (toV (toF (op2 mulD (rdV 7) (rdV 7)))) (consA (toV (rdF 12)) (nilA))))) (toV (callF mi__law_divides (consA (toV (toF (op2 mulD (rdV 9) (rdV 7)))) (consA (toV (rdF 6)) (nilA)))))))
  (sRet (toF (cV (.bl false))))
  (sNil))
  (sSeq (sIf (orT (andT (toT (op2 gtD (rdV 2) (cV (.int 2)))) (toT (op2 neD (op2 modD (opL intD (consA (op2 subD (rdV 12) (rdV 6)) (nilA))) (op2 subD (rdV 2) (cV (.int 1)))) (cV (.int 0))))) (orT (toT (op2 ltD (rdV 12) (rdV 6))) (toT (op2 ltD (op2 ixD (op2 ixD (rdV 4) (op2 addD (rdV 6) (cV (.int 1)))) (cV (.int 1))) (rdV 8)))))
  (sRet (toF (cV (.bl false))))
  (sNil))
  (sSet 8 (toF (op2 mulD (rdV 8) (op2 subD (op2 mulD (cV (.int 2)) (rdV 2)) (cV (.int 1)))))))))
noncomputable def B_law : Sem :=
  sSeq (sSet 1 (toF (op2 modD (opL intD (consA (toV (callF mi__law_cell (consA (toV (rdF 0)) (consA (toV (toF (cV (.int 0)))) (nilA))))) (nilA))) (cV (.int 900000)))))
  (sSeq (sSet 2 (toF (op2 addD (cV (.int 2)) (op2 modD (rdV 1) (cV (.int 8))))))
  (sSeq (sPar 9 10 (consA (toV (toF (op2 addD (cV (.int 1)) (op2 modD (op2 divD (rdV 1) (cV (.int 8))) (cV (.int 6)))))) (consA (toV (toF (op2 modD (op2 divD (rdV 1) (cV (.int 48))) (cV (.int 25))))) (nilA))))
  (sSeq (sSet 3 (toF (op2 addD (cV (.int 1)) (op2 modD (op2 divD (rdV 1) (cV (.int 1200))) (cV (.int 60))))))
  (sSeq (sSet 4 (callF mi__law_pairs (consA (toV (rdF 2)) (consA (toV (toF (cV (.int 150)))) (nilA)))))
  (sSeq (sPar 7 6 (consA (toV (ixF (op2 ixD (rdV 4) (cV (.int 1))) (cV (.int 1)))) (consA (toV (toF (cV (.int 1)))) (nilA))))
  (sSeq (sSet 5 (callF mi_rank (consA (toV (rdF 2)) (consA (toV (rdF 3)) (nilA)))))
  (sSeq (sIf (orT (notT (toT (toV (callF mi__law_is_integer (consA (toV (rdF 5)) (nilA)))))) (toT (op2 ltD (rdV 5) (cV (.int 1)))))
  (sRet (toF (cV (.bl false))))
  (sNil))
  (sSeq (sIf (toT (op2 eqD (op2 modD (op2 divD (rdV 1) (cV (.int 72000))) (cV (.int 10))) (cV (.int 1))))
  (sSeq (sSet 3 (toF (op2 addD (cV (.int 1)) (op2 modD (rdV 1) (cV (.int 5000))))))
  (sSeq (sSet 5 (callF mi_rank (consA (toV (rdF 2)) (consA (toV (rdF 3)) (nilA)))))
  (sRet (toF (andV (op2 geD (rdV 5) (cV (.int 1))) (andV (toV (callF mi__law_divides (consA (toV (rdF 3)) (consA (toV (ixF (toV (callF mi_pair (consA (toV (rdF 5)) (consA (toV (rdF 2)) (nilA))))) (cV (.int 1)))) (nilA))))) (notV (opL anyD (consA (toV (lcF (seqV (toV (cutF (rdV 4) (oSo (cV (.int 1))) (oSo (opL min2D (consA (rdV 5) (consA (cV (.int 150)) (nilA)))))))) (gN 13) yesT M1_law [13])) (nilA))))))))))
  (sNil))
  (sSeq (sFor (rng2 (consA (cV (.int 1)) (consA (cV (.int 150)) (nilA)))) (gN 6) L1_law)
  (sSeq (sSet 7 (ixF (toV (callF mi_pair (consA (toV (rdF 9)) (consA (toV (rdF 2)) (nilA))))) (cV (.int 1))))
  (sSeq (sSet 8 (toF (cV (.int 1))))
  (sSeq (sFor (rng1 (consA (cV (.int 60)) (nilA))) (gN 6) L2_law)
  (sRet (toF (andV (op2 eqD (toV (callF mi_pair (consA (toV (rdF 10)) (consA (toV (rdF 2)) (nilA))))) (op2 ixD (rdV 4) (rdV 10))) (op2 eqD (toV (callF mi__law_common (consA (toV (ixF (op2 ixD (rdV 4) (rdV 10)) (cV (.int 0)))) (consA (toV (ixF (op2 ixD (rdV 4) (rdV 10)) (cV (.int 1)))) (nilA))))) (cV (.int 1))))))))))))))))))
noncomputable def mi_law : List D → R Sl := fun ds => outR (B_law 1000000 (startN 14 ds))
theorem ml_law : ∀ ds : List D, ds.length = 1 → mi_law ds = .no ∨ RunsTo B_law N_law ds (mi_law ds) := fun ds _ => .inr ⟨1000000, rfl⟩

theorem d_law {P : Program} {w : World} {K : PySem.W.Frag} {mg : Str → Option Value} {base : Heap} {f : Addr} {fd : FuncData} (F : Fun K "law" "law" s_law f fd) (gm : mg "law" = some (.ref f)) (b : Binds K fd ["_law_script"] []) (G__law_cell : FnM P w K mg base "_law_cell" 1 2 mi__law_cell) (G__law_pairs : FnM P w K mg base "_law_pairs" 1 2 mi__law_pairs) (G_rank : FnM P w K mg base "rank" 1 2 mi_rank) (G__law_is_integer : FnM P w K mg base "_law_is_integer" 1 1 mi__law_is_integer) (G__law_divides : FnM P w K mg base "_law_divides" 1 2 mi__law_divides) (G_pair : FnM P w K mg base "pair" 2 2 mi_pair) (G__law_common : FnM P w K mg base "_law_common" 1 2 mi__law_common) (z_int : mg "int" = none) (z_min : mg "min" = none) (z_any : mg "any" = none) (z_range : mg "range" = none) :
    FnOk P w K mg base (L2.CX P w) 3 f fd ["_law_script"] (SpM K mg 1 mi_law) := by
  refine fnok_of (s := B_law) F sc_law rfl (fun cdv A outer s0 H E hr => ?_) ml_law
  have tk : Takes (cxOf (L2.CX P w) P w K mg base N_law "law" (defScope s_law) f cdv A outer s0 H E) (fun cls d _ H => E cls d H) := takes_of rfl rfl rfl rfl
  have hp : PassesOwn (model P w) (A.deeper (envOfC "law" (defScope s_law) s0.heap.objs.size f cdv)) (cxOf (L2.CX P w) P w K mg base N_law "law" (defScope s_law) f cdv A outer s0 H E).env (cxOf (L2.CX P w) P w K mg base N_law "law" (defScope s_law) f cdv A outer s0 H E).xe := passes_of (X := cxOf (L2.CX P w) P w K mg base N_law "law" (defScope s_law) f cdv A outer s0 H E) rfl
  have nd := sc_law.nd
  have hu := hr.units
  exact mss_cons (ms_set 1 nd (me_of (mv_mod (mv_intc z_int (ml_cons (mv_of (me_call G__law_cell tk (hr.mono (by decide)) (ma_cons (me_v 0) (ma_cons (me_of (mv_int)) (ma_nil))) rfl (lenA_cons (lenA_cons (lenA_nil))))) (ml_nil))) (mv_int))))
      (mss_cons (ms_set 2 nd (me_of (mv_add (mv_int) (mv_mod (mv_v 1) (mv_int)))))
      (mss_cons (ms_par (i := 9) (j := 10) rfl nd (ma_cons (me_of (mv_add (mv_int) (mv_mod (mv_div (mv_v 1) (mv_int)) (mv_int)))) (ma_cons (me_of (mv_mod (mv_div (mv_v 1) (mv_int)) (mv_int))) (ma_nil))))
      (mss_cons (ms_set 3 nd (me_of (mv_add (mv_int) (mv_mod (mv_div (mv_v 1) (mv_int)) (mv_int)))))
      (mss_cons (ms_set 4 nd (me_call G__law_pairs tk (hr.mono (by decide)) (ma_cons (me_v 2) (ma_cons (me_of (mv_int)) (ma_nil))) rfl (lenA_cons (lenA_cons (lenA_nil)))))
      (mss_cons (ms_par (i := 7) (j := 6) rfl nd (ma_cons (me_ix (mv_ix (mv_v 4) (mv_int)) (mv_int)) (ma_cons (me_of (mv_int)) (ma_nil))))
      (mss_cons (ms_set 5 nd (me_call G_rank tk (hr.mono (by decide)) (ma_cons (me_v 2) (ma_cons (me_v 3) (ma_nil))) rfl (lenA_cons (lenA_cons (lenA_nil)))))
      (mss_cons (ms_if (mt_w (mw_or (mt_not (mt_val (mv_of (me_call G__law_is_integer tk (hr.mono (by decide)) (ma_cons (me_v 5) (ma_nil)) rfl (lenA_cons (lenA_nil)))))) (mw_or1 (mt_lt (mv_v 5) (mv_int)))))
      (mss_one (ms_ret (me_of (mv_bl))))
      (mss_nil))
      (mss_cons (ms_if (mt_eq hu (mv_mod (mv_div (mv_v 1) (mv_int)) (mv_int)) (mv_int))
      (mss_cons (ms_set 3 nd (me_of (mv_add (mv_int) (mv_mod (mv_v 1) (mv_int)))))
      (mss_cons (ms_set 5 nd (me_call G_rank tk (hr.mono (by decide)) (ma_cons (me_v 2) (ma_cons (me_v 3) (ma_nil))) rfl (lenA_cons (lenA_cons (lenA_nil)))))
      (mss_one (ms_ret (me_of (mv_and (mv_ge (mv_v 5) (mv_int)) (mv_and (mv_of (me_call G__law_divides tk (hr.mono (by decide)) (ma_cons (me_v 3) (ma_cons (me_ix (mv_of (me_call G_pair tk (hr.mono (by decide)) (ma_cons (me_v 5) (ma_cons (me_v 2) (ma_nil))) rfl (lenA_cons (lenA_cons (lenA_nil))))) (mv_int)) (ma_nil))) rfl (lenA_cons (lenA_cons (lenA_nil))))) (mv_one (mv_not (mv_any rfl z_any (ml_cons (mv_of (me_lc (own := [("_law_one", 13)]) (f := M1_law) rfl nd (mj_seq (mv_of (me_slice (mv_v 4) (mo_some (mv_int)) (mo_some (mv_min2 rfl z_min (ml_cons (mv_v 5) (ml_cons (mv_int) (ml_nil)))))))) (blkOk_by (N := N_law) (sc := defScope s_law) (by decide +kernel)) (fun _ _ _ _ _ => mg_name 13 nd) (fun _ _ _ _ _ => mts_nil) (fun _ _ _ _ _ => me_call G__law_divides takes0 (hr.mono (by decide)) (ma_cons (me_v 3) (ma_cons (me_ix (mv_v 13) (mv_int)) (ma_nil))) rfl (lenA_cons (lenA_cons (lenA_nil)))))) (ml_nil))))))))))))
      (mss_nil))
      (mss_cons (ms_for (s := L1_law) hp rfl (mi_range2 z_range (ml_cons (mv_int) (ml_cons (mv_int) (ml_nil)))) (mg_name 6 nd) (gN_nx)
      (mss_one (ms_if (mt_ne hu (mv_of (me_call G__law_divides tk (hr.mono (by decide)) (ma_cons (me_v 3) (ma_cons (me_ix (mv_ix (mv_v 4) (mv_v 6)) (mv_int)) (ma_nil))) rfl (lenA_cons (lenA_cons (lenA_nil))))) (mv_eq hu (mv_mod (mv_intc z_int (ml_cons (mv_v 6) (ml_nil))) (mv_v 5)) (mv_int)))
      (mss_one (ms_ret (me_of (mv_bl))))
      (mss_nil))))
      (mss_cons (ms_set 7 nd (me_ix (mv_of (me_call G_pair tk (hr.mono (by decide)) (ma_cons (me_v 9) (ma_cons (me_v 2) (ma_nil))) rfl (lenA_cons (lenA_cons (lenA_nil))))) (mv_int)))
      (mss_cons (ms_set 8 nd (me_of (mv_int)))
      (mss_cons (ms_for (s := L2_law) hp rfl (mi_range1 z_range (ml_cons (mv_int) (ml_nil))) (mg_name 6 nd) (gN_nx)
      (mss_cons (ms_asg (me_ix (mv_v 4) (mv_v 6)) (mg_tup rfl (mgs_cons (mg_name 11 nd) (mgs_cons (mg_name 12 nd) (mgs_nil)))))
      (mss_cons (ms_if (mt_w (mw_or (mt_ne hu (mv_of (me_call G__law_divides tk (hr.mono (by decide)) (ma_cons (me_v 7) (ma_cons (me_v 12) (ma_nil))) rfl (lenA_cons (lenA_cons (lenA_nil))))) (mv_eq hu (mv_mod (mv_intc z_int (ml_cons (mv_v 6) (ml_nil))) (mv_v 9)) (mv_int))) (mw_or1 (mt_ne hu (mv_eq hu (mv_mod (mv_intc z_int (ml_cons (mv_v 12) (ml_nil))) (mv_int)) (mv_int)) (mv_eq hu (mv_mod (mv_intc z_int (ml_cons (mv_v 6) (ml_nil))) (mv_int)) (mv_int))))))
      (mss_one (ms_ret (me_of (mv_bl))))
      (mss_nil))
      (mss_cons (ms_if (mt_ne hu (mv_of (me_call G__law_divides tk (hr.mono (by decide)) (ma_cons (me_of (mv_mul (mv_v 7) (mv_v 7))) (ma_cons (me_v 12) (ma_nil))) rfl (lenA_cons (lenA_cons (lenA_nil))))) (mv_of (me_call G__law_divides tk (hr.mono (by decide)) (ma_cons (me_of (mv_mul (mv_v 9) (mv_v 7))) (ma_cons (me_v 6) (ma_nil))) rfl (lenA_cons (lenA_cons (lenA_nil))))))
      (mss_one (ms_ret (me_of (mv_bl))))
      (mss_nil))
      (mss_cons (ms_if (mt_w (mw_or (mt_w (mw_and (mt_gt (mv_v 2) (mv_int)) (mw_and1 (mt_ne hu (mv_mod (mv_intc z_int (ml_cons (mv_sub (mv_v 12) (mv_v 6)) (ml_nil))) (mv_sub (mv_v 2) (mv_int))) (mv_int))))) (mw_or (mt_lt (mv_v 12) (mv_v 6)) (mw_or1 (mt_lt (mv_ix (mv_ix (mv_v 4) (mv_add (mv_v 6) (mv_int))) (mv_int)) (mv_v 8))))))
      (mss_one (ms_ret (me_of (mv_bl))))
      (mss_nil))
      (mss_one (ms_set 8 nd (me_of (mv_mul (mv_v 8) (mv_sub (mv_mul (mv_int) (mv_v 2)) (mv_int)))))))))))
      (mss_one (ms_ret (me_of (mv_and (mv_eq hu (mv_of (me_call G_pair tk (hr.mono (by decide)) (ma_cons (me_v 10) (ma_cons (me_v 2) (ma_nil))) rfl (lenA_cons (lenA_cons (lenA_nil))))) (mv_ix (mv_v 4) (mv_v 10))) (mv_one (mv_eq hu (mv_of (me_call G__law_common tk (hr.mono (by decide)) (ma_cons (me_ix (mv_ix (mv_v 4) (mv_v 10)) (mv_int)) (ma_cons (me_ix (mv_ix (mv_v 4) (mv_v 10)) (mv_int)) (ma_nil))) rfl (lenA_cons (lenA_cons (lenA_nil))))) (mv_int)))))))))))))))))))

end K33

/-! ### pairs: the plain law of x * x - (a * a - 1) * y * y = 1 -/
namespace PM
def P (a : Int) : Nat → Int × Int
  | 0 => (1, 0)
  | n + 1 => ((P a n).1 * a + (a * a - 1) * (P a n).2, (P a n).1 + (P a n).2 * a)
abbrev X (a : Int) (n : Nat) : Int := (P a n).1
abbrev Y (a : Int) (n : Nat) : Int := (P a n).2
theorem X_succ (a : Int) (n : Nat) : X a (n + 1) = X a n * a + (a * a - 1) * Y a n := rfl
theorem Y_succ (a : Int) (n : Nat) : Y a (n + 1) = X a n + Y a n * a := rfl
theorem norm (a : Int) : ∀ n, X a n * X a n - (a * a - 1) * Y a n * Y a n = 1
  | 0 => by simp [X, Y, P]
  | n + 1 => by
    have ih := norm a n
    rw [X_succ, Y_succ]
    generalize X a n = x at *
    generalize Y a n = y at *
    grind
theorem X_rec (a : Int) (n : Nat) : X a (n + 2) = 2 * a * X a (n + 1) - X a n := by
  rw [X_succ a (n + 1), X_succ, Y_succ]
  grind
theorem Y_rec (a : Int) (n : Nat) : Y a (n + 2) = 2 * a * Y a (n + 1) - Y a n := by
  rw [Y_succ a (n + 1), X_succ, Y_succ]
  grind
theorem add (a : Int) (m : Nat) : ∀ n, X a (m + n) = X a m * X a n + (a * a - 1) * Y a m * Y a n ∧ Y a (m + n) = X a m * Y a n + Y a m * X a n
  | 0 => by simp [X, Y, P]
  | n + 1 => by
    have ih := add a m n
    rw [← Nat.add_assoc, X_succ a (m + n), Y_succ a (m + n), X_succ a n, Y_succ a n, ih.1, ih.2]
    constructor <;> grind
theorem sub (a : Int) (k n : Nat) : X a (k + n) * X a n - (a * a - 1) * Y a (k + n) * Y a n = X a k ∧ Y a (k + n) * X a n - X a (k + n) * Y a n = Y a k := by
  have h := add a k n
  have hn := norm a n
  rw [h.1, h.2]
  generalize X a k = x at *
  generalize Y a k = y at *
  generalize X a n = u at *
  generalize Y a n = v at *
  constructor <;> grind
theorem pos {a : Int} (ha : 2 ≤ a) : ∀ n, 1 ≤ X a n ∧ 0 ≤ Y a n ∧ Y a n < X a n
  | 0 => by simp [X, Y, P]
  | n + 1 => by
    obtain ⟨h1, h2, h3⟩ := pos ha n
    rw [X_succ, Y_succ]
    generalize X a n = x at *
    generalize Y a n = y at *
    have e1 : 0 ≤ y * a := Int.mul_nonneg h2 (by omega)
    have e2 : 2 * x ≤ x * a := by rw [Int.mul_comm]; exact Int.mul_le_mul_of_nonneg_left ha (by omega)
    have e3 : y * 2 ≤ y * a := Int.mul_le_mul_of_nonneg_left ha h2
    have e4 : a * a - 1 ≥ a + 1 := by
      have : 2 * a ≤ a * a := Int.mul_le_mul_of_nonneg_right ha (by omega)
      omega
    have e5 : (a + 1) * y ≤ (a * a - 1) * y := Int.mul_le_mul_of_nonneg_right e4 h2
    have e6 : (a + 1) * y = y * a + y := by rw [Int.add_mul, Int.mul_comm a y, Int.one_mul]
    omega
theorem Y_lt {a : Int} (ha : 2 ≤ a) (n : Nat) : Y a n < Y a (n + 1) := by
  obtain ⟨h1, h2, h3⟩ := pos ha n
  rw [Y_succ]
  generalize X a n = x at *
  generalize Y a n = y at *
  have e3 : y * 2 ≤ y * a := Int.mul_le_mul_of_nonneg_left ha h2
  omega
theorem Y_ge {a : Int} (ha : 2 ≤ a) : ∀ n : Nat, (n : Int) ≤ Y a n
  | 0 => by simp [Y, P]
  | n + 1 => by
    have := Y_ge ha n
    have := Y_lt ha n
    omega
theorem Y_mono {a : Int} (ha : 2 ≤ a) {m n : Nat} (h : m < n) : Y a m < Y a n := by
  induction n with
  | zero => omega
  | succ n ih =>
    have := Y_lt ha n
    by_cases e : m = n
    · subst e; exact this
    · exact Int.lt_trans (ih (by omega)) this
theorem X_le {a : Int} (ha : 2 ≤ a) : ∀ n : Nat, X a n ≤ (2 * a) ^ n
  | 0 => by simp [X, P]
  | n + 1 => by
    have ih := X_le ha n
    obtain ⟨h1, h2, h3⟩ := pos ha n
    have hr : X a (n + 1) ≤ 2 * a * X a n := by
      cases n with
      | zero => simp [X, P]; omega
      | succ n =>
        rw [X_rec]
        have := (pos ha n).1
        omega
    rw [Int.pow_succ, Int.mul_comm]
    refine Int.le_trans hr ?_
    exact Int.mul_le_mul_of_nonneg_left ih (by omega)
/-- the bound that the walk needs: all in 2 ^ (k * n) -/
theorem bnd {a : Int} {k : Nat} (ha : 2 ≤ a) (hk : 2 * a ≤ 2 ^ k) (n : Nat) : X a n ≤ 2 ^ (k * n) ∧ Y a n ≤ 2 ^ (k * n) := by
  have h1 := X_le ha n
  have h2 := (pos ha n).2.2
  have h3 : (2 * a) ^ n ≤ (2 ^ k) ^ n := by
    clear h1 h2
    induction n with
    | zero => simp
    | succ n ih =>
      rw [Int.pow_succ, Int.pow_succ]
      exact Int.mul_le_mul ih hk (by omega) (Int.pow_nonneg (Int.pow_nonneg (by decide)))
  rw [← Int.pow_mul] at h3
  omega
end PM

namespace RL
open PySem PySem.Spec PyProof.Rows L2 Mp PM
open Mp (D Sem)
abbrev nD (n : Nat) : D := .int (n : Int)
abbrev tD (x y : Int) : D := .tup [.int x, .int y]
abbrev pD (a : Int) (n : Nat) : D := tD (X a n) (Y a n)
theorem nam {i j : Int} {p q r : Nat} (h1 : i.natAbs < 2 ^ p) (h2 : j.natAbs < 2 ^ q) (hr : p + q ≤ r) : (i * j).natAbs < 2 ^ r := by
  rw [Int.natAbs_mul]
  refine Nat.lt_of_lt_of_le ?_ (Nat.pow_le_pow_right (by decide) hr)
  rw [Nat.pow_add]
  exact Nat.mul_lt_mul'' h1 h2
theorem nas {i : Int} {p q : Nat} (h1 : i.natAbs < 2 ^ p) (hr : p < q) : (i - 1).natAbs < 2 ^ q := by
  have h2 : 2 ^ (p + 1) ≤ 2 ^ q := Nat.pow_le_pow_right (by decide) hr
  rw [Nat.pow_succ] at h2
  have h3 : 0 < 2 ^ p := Nat.pow_pos (by decide)
  omega
/-- small enough for the walk -/
def Sm (i : Int) : Prop := i.natAbs < 2 ^ 20000
theorem added_ok {x y u v a : Int} (hx : Sm x) (hy : Sm y) (hu : Sm u) (hv : Sm v) (ha : Sm a) :
    mi_added [tD x y, tD u v, .int a] = .ok (.fz (tD (x * u + (a * a - 1) * y * v) (x * v + y * u))) := by
  have hs2 : (2 : Nat) ≤ sizeLine := by rw [sizeLine_eq]; decide
  have m1 : mulOk x u = true := mulOk_of hx hu
  have m2 : mulOk a a = true := mulOk_of ha ha
  have n1 : (a * a - 1).natAbs < 2 ^ 40001 := nas (nam ha ha (Nat.le_refl _)) (by decide)
  have m3 : mulOk (a * a - 1) y = true := mulOk_of n1 hy
  have n2 : ((a * a - 1) * y).natAbs < 2 ^ 60001 := nam n1 hy (by decide)
  have m4 : mulOk ((a * a - 1) * y) v = true := mulOk_of n2 hv
  have m5 : mulOk x v = true := mulOk_of hx hv
  have m6 : mulOk y u = true := mulOk_of hy hu
  clear n1 n2 hx hy hu hv ha
  have e : B_added 1000000 (startN 7 [tD x y, tD u v, .int a]) = .rt (.fz (tD (x * u + (a * a - 1) * y * v) (x * v + y * u))) := by
    unfold B_added
    refine (seq_asg (tD x y) _ (by simp [startN]) rfl).trans ?_
    refine (seq_asg (tD u v) _ (by simp [startN]) rfl).trans ?_
    refine seq_ret _ ?_
    simp [startN, hs2, m1, m2, m3, m4, m5, m6]
  exact congrArg outR e
theorem taken_ok {x y u v a : Int} (hx : Sm x) (hy : Sm y) (hu : Sm u) (hv : Sm v) (ha : Sm a) :
    mi_taken [tD x y, tD u v, .int a] = .ok (.fz (tD (x * u - (a * a - 1) * y * v) (y * u - x * v))) := by
  have hs2 : (2 : Nat) ≤ sizeLine := by rw [sizeLine_eq]; decide
  have m1 : mulOk x u = true := mulOk_of hx hu
  have m2 : mulOk a a = true := mulOk_of ha ha
  have n1 : (a * a - 1).natAbs < 2 ^ 40001 := nas (nam ha ha (Nat.le_refl _)) (by decide)
  have m3 : mulOk (a * a - 1) y = true := mulOk_of n1 hy
  have n2 : ((a * a - 1) * y).natAbs < 2 ^ 60001 := nam n1 hy (by decide)
  have m4 : mulOk ((a * a - 1) * y) v = true := mulOk_of n2 hv
  have m5 : mulOk x v = true := mulOk_of hx hv
  have m6 : mulOk y u = true := mulOk_of hy hu
  clear n1 n2 hx hy hu hv ha
  have e : B_taken 1000000 (startN 7 [tD x y, tD u v, .int a]) = .rt (.fz (tD (x * u - (a * a - 1) * y * v) (y * u - x * v))) := by
    unfold B_taken
    refine (seq_asg (tD x y) _ (by simp [startN]) rfl).trans ?_
    refine (seq_asg (tD u v) _ (by simp [startN]) rfl).trans ?_
    refine seq_ret _ ?_
    simp [startN, hs2, m1, m2, m3, m4, m5, m6]
  exact congrArg outR e
/-- binary digits, the lowest first -/
def bits : Nat → Nat → List Nat
  | 0, _ => []
  | k + 1, n => if n = 0 then [] else n % 2 :: bits k (n / 2)
theorem digits_loop : ∀ (k n m : Nat) (xs : List Nat), n < 2 ^ k → k < m → xs.length + k < 100000 → sWhile C1__digits L1__digits m [.fz (nD n), .ow (.lst (xs.map nD))] = .nx [.fz (nD 0), .ow (.lst ((xs ++ bits k n).map nD))] := by
  intro k
  induction k with
  | zero =>
    intro n m xs hn hm hl
    obtain ⟨m, rfl⟩ : ∃ k, m = k + 1 := ⟨m - 1, by omega⟩
    obtain rfl : n = 0 := by omega
    rw [sWhile_stop (by unfold C1__digits; simp)]; simp [bits]
  | succ k ih =>
    intro n m xs hn hm hl
    obtain ⟨m, rfl⟩ : ∃ k, m = k + 1 := ⟨m - 1, by omega⟩
    by_cases h0 : n = 0
    · subst h0
      rw [sWhile_stop (by unfold C1__digits; simp)]; simp [bits]
    have d : divOk (n : Int) 2 = true := divOk_small (by decide) (by decide)
    have hsz : xs.length < sizeLine := by rw [sizeLine_eq]; omega
    have hc : C1__digits [.fz (nD n), .ow (.lst (xs.map nD))] = .ok true := by
      unfold C1__digits
      simp; omega
    rw [sWhile_step hc (ρ' := [.fz (nD (n / 2)), .ow (.lst ((xs ++ [n % 2]).map nD))]) (by unfold L1__digits; simp [d, hsz]), ih (n / 2) m (xs ++ [n % 2]) (by rw [Nat.pow_succ] at hn; omega) (by omega) (by simp; omega)]
    have : xs ++ [n % 2] ++ bits k (n / 2) = xs ++ bits (k + 1) n := by
      rw [List.append_assoc]
      show _ = xs ++ (if n = 0 then [] else n % 2 :: bits k (n / 2))
      rw [if_neg h0]; rfl
    rw [this]
theorem digits_ok (k n : Nat) (hn : n < 2 ^ k) (hk : k < 20000) : mi__digits [nD n] = .ok (.ow (.lst ((bits k n).reverse.map nD))) := by
  have eρ := digits_loop k n 1000000 [] hn (by omega) (by simp; omega)
  have e : B__digits 1000000 (startN 2 [nD n]) = .rt (.ow (.lst ((bits k n).reverse.map nD))) := by
    unfold B__digits
    refine (seq_own (.ow (.lst [])) (by simp)).trans ?_
    refine (seq_while _ eρ).trans ?_
    refine seq_ret _ ?_
    simp
  exact congrArg outR e
def vf (v : Nat) : List Nat → Nat
  | [] => v
  | d :: ds => vf (2 * v + d) ds
theorem vf_ge : ∀ (l : List Nat) (v : Nat), v ≤ vf v l
  | [], v => Nat.le_refl _
  | d :: l, v => by
    have := vf_ge l (2 * v + d)
    show v ≤ vf (2 * v + d) l
    omega
theorem vf_app : ∀ (l m : List Nat) (v : Nat), vf v (l ++ m) = vf (vf v l) m
  | [], m, v => rfl
  | d :: l, m, v => vf_app l m (2 * v + d)
theorem vf_bits : ∀ (k n : Nat), n < 2 ^ k → vf 0 (bits k n).reverse = n
  | 0, n, h => by
    obtain rfl : n = 0 := by omega
    rfl
  | k + 1, n, h => by
    unfold bits
    by_cases h0 : n = 0
    · rw [if_pos h0]; subst h0; rfl
    · rw [if_neg h0, List.reverse_cons, vf_app, vf_bits k (n / 2) (by rw [Nat.pow_succ] at h; omega)]
      show 2 * (n / 2) + n % 2 = n
      omega
theorem bits_le : ∀ (k n : Nat), ∀ d ∈ bits k n, d ≤ 1
  | 0, n, d, h => by cases h
  | k + 1, n, d, h => by
    unfold bits at h
    by_cases h0 : n = 0
    · rw [if_pos h0] at h; cases h
    · rw [if_neg h0] at h
      rcases List.mem_cons.mp h with h | h
      · omega
      · exact bits_le k _ d h
theorem pstep {m : Nat} {s0 : Sl} {a : Int} {v d N : Nat} (ha : Sm a) (hS : ∀ w, w ≤ N → Sm (X a w) ∧ Sm (Y a w)) (hd : d ≤ 1) (hN : 2 * v + d ≤ N) :
    L1_pair m [s0, .fz (.int a), .fz (pD a v), .fz (nD d)] = .nx [s0, .fz (.int a), .fz (pD a (2 * v + d)), .fz (nD d)] := by
  have hs2 : (2 : Nat) ≤ sizeLine := by rw [sizeLine_eq]; decide
  have s1 := hS v (by omega)
  have s2 := hS (2 * v) (by omega)
  have S1 : Sm 1 := by unfold Sm; exact Nat.lt_of_lt_of_le (show 1 < 2 ^ 1 by decide) (Nat.pow_le_pow_right (by decide) (by decide))
  have e1 := added_ok s1.1 s1.2 s1.1 s1.2 ha
  have hadd := PM.add a v v
  rw [← hadd.1, ← hadd.2, show v + v = 2 * v by omega] at e1
  have e2 := added_ok s2.1 s2.2 ha S1 ha
  have q1 : X a (2 * v) * a + (a * a - 1) * Y a (2 * v) * 1 = X a (2 * v + 1) := by rw [X_succ, Int.mul_one]
  have q2 : X a (2 * v) * 1 + Y a (2 * v) * a = Y a (2 * v + 1) := by rw [Y_succ, Int.mul_one]
  rw [q1, q2] at e2
  unfold L1_pair
  refine (seq_set (.fz (pD a (2 * v))) (by simp; exact e1)).trans ?_
  have c : d = 0 ∨ d = 1 := by omega
  rcases c with rfl | rfl
  · simp
  · simp [hs2]
    rw [e2]
    rfl
theorem ploop {m : Nat} {s0 : Sl} {a : Int} {N : Nat} (ha : Sm a) (hS : ∀ w, w ≤ N → Sm (X a w) ∧ Sm (Y a w)) : ∀ (l : List Nat) (v : Nat) (x : Sl), (∀ d ∈ l, d ≤ 1) → vf v l ≤ N →
    ∃ x', sLoop (gN 3) L1_pair m (l.map nD) [s0, .fz (.int a), .fz (pD a v), x] = .nx [s0, .fz (.int a), .fz (pD a (vf v l)), x']
  | [], v, x, _, _ => ⟨x, rfl⟩
  | d :: l, v, x, hd, hN => by
    have hge := vf_ge l (2 * v + d)
    have hN' : vf (2 * v + d) l ≤ N := hN
    obtain ⟨x', e⟩ := ploop (m := m) (s0 := s0) ha hS l (2 * v + d) (.fz (nD d)) (fun y hy => hd y (List.mem_cons_of_mem _ hy)) hN'
    refine ⟨x', ?_⟩
    have hp := pstep (m := m) (s0 := s0) ha hS (hd d List.mem_cons_self) (show 2 * v + d ≤ N by omega)
    rw [List.map_cons]
    show oLoop (L1_pair m [s0, .fz (.int a), .fz (pD a v), .fz (nD d)]) _ = _
    rw [hp]
    exact e
theorem pair_ok {a : Int} {n : Nat} (ha : Sm a) (hn : n < 2 ^ 2000) (hS : ∀ w, w ≤ n → Sm (X a w) ∧ Sm (Y a w)) : mi_pair [nD n, .int a] = .ok (.fz (pD a n)) := by
  have hs2 : (2 : Nat) ≤ sizeLine := by rw [sizeLine_eq]; decide
  have hv := vf_bits 2000 n hn
  obtain ⟨x, eρ⟩ := ploop (m := 1000000) (s0 := .fz (nD n)) ha hS (bits 2000 n).reverse 0 .un (fun d h => bits_le 2000 n d (List.mem_reverse.mp h)) (by omega)
  rw [hv] at eρ
  have hd := digits_ok 2000 n hn (by decide)
  have e : B_pair 1000000 (startN 4 [nD n, .int a]) = .rt (.fz (pD a n)) := by
    unfold B_pair
    refine (seq_set (.fz (tD 1 0)) (by simp [hs2])).trans ?_
    refine (seq_for ((bits 2000 n).reverse.map nD) _ (by simp [startN, hd]) eρ).trans ?_
    simp
  exact congrArg outR e
theorem whole_ok (i : Int) : mi_is_whole [.int i] = .ok (.fz (.bl true)) := by
  have e : B_is_whole 1000000 (startN 1 [.int i]) = .rt (.fz (.bl true)) := by
    unfold B_is_whole
    refine seq_ret _ ?_
    simp [startN]
  exact congrArg outR e
theorem isint_ok (i : Int) : mi__law_is_integer [.int i] = .ok (.fz (.bl true)) := by
  have e : B__law_is_integer 1000000 (startN 1 [.int i]) = .rt (.fz (.bl true)) := by
    unfold B__law_is_integer
    refine seq_ret _ ?_
    simp [startN]
  exact congrArg outR e
theorem iloop {a : Int} {s0 s3 s7 : Sl} {n : Nat} (h2 : 2 ≤ a) (ha : Sm a) (hS : ∀ w, w ≤ n → Sm (Y a w)) : ∀ (r k m : Nat), k + r = n → r < m →
    sWhile C1_index_of L1_index_of m [s0, .fz (.int a), .fz (nD k), s3, .fz (.int (Y a n)), .fz (.int (Y a k)), .fz (.int (Y a (k + 1))), s7] =
      .nx [s0, .fz (.int a), .fz (nD n), s3, .fz (.int (Y a n)), .fz (.int (Y a n)), .fz (.int (Y a (n + 1))), s7]
  | 0, k, m, hk, hm => by
    obtain ⟨m, rfl⟩ : ∃ k, m = k + 1 := ⟨m - 1, by omega⟩
    obtain rfl : k = n := by omega
    rw [sWhile_stop (by unfold C1_index_of; simp)]
  | r + 1, k, m, hk, hm => by
    obtain ⟨m, rfl⟩ : ∃ k, m = k + 1 := ⟨m - 1, by omega⟩
    have hlt := Y_mono h2 (show k < n by omega)
    have m1 : mulOk 2 a = true := mulOk_of (a := 2) (b := 20000) (by decide) ha
    have s1 := hS (k + 1) (by omega)
    have h2a : ((2 : Int) * a).natAbs < 2 ^ 20002 := nam (p := 2) (show (2 : Int).natAbs < 2 ^ 2 by decide) ha (by decide)
    have m2 : mulOk (2 * a) (Y a (k + 1)) = true := mulOk_of h2a s1
    have hr := Y_rec a k
    have hc : C1_index_of [s0, .fz (.int a), .fz (nD k), s3, .fz (.int (Y a n)), .fz (.int (Y a k)), .fz (.int (Y a (k + 1))), s7] = .ok true := by
      unfold C1_index_of
      simp [hlt]
    rw [sWhile_step hc (ρ' := [s0, .fz (.int a), .fz (nD (k + 1)), s3, .fz (.int (Y a n)), .fz (.int (Y a (k + 1))), .fz (.int (Y a (k + 2))), s7]) (by
      rw [hr]
      generalize Y a (k + 1) = y1 at m2
      generalize Y a k = y0
      unfold L1_index_of
      simp [m1, m2])]
    exact iloop h2 ha hS r (k + 1) m (by omega) (by omega)
/-- the first test of index_of says no for a tuple of two numbers -/
theorem i_first {x y a : Int} {s2 s3 s4 s5 s6 s7 : Sl} : (orT (notT (toT (op1 (isT "tuple") (rdV 0)))) (orT (toT (op2 neD (opL lenD (consA (rdV 0) (nilA))) (cV (.int 2)))) (notT (toT (opL allD (consA (toV (lcF (seqV (rdV 0)) (gN 7) yesT M1_index_of [7])) (nilA))))))) [.fz (tD x y), .fz (.int a), s2, s3, s4, s5, s6, s7] = .ok false := by
  have hs2 : (2 : Nat) ≤ sizeLine := by rw [sizeLine_eq]; decide
  simp [lcL, wipeR, M1_index_of, whole_ok, hs2, asBls]
theorem i_norm {x y a : Int} (hx : Sm x) (hy : Sm y) (ha : Sm a) : mulOk x x = true ∧ mulOk a a = true ∧ mulOk (a * a - 1) y = true ∧ mulOk ((a * a - 1) * y) y = true := by
  have n1 : (a * a - 1).natAbs < 2 ^ 40001 := nas (nam ha ha (Nat.le_refl _)) (by decide)
  have n2 : ((a * a - 1) * y).natAbs < 2 ^ 60001 := nam n1 hy (by decide)
  exact ⟨mulOk_of hx hx, mulOk_of ha ha, mulOk_of n1 hy, mulOk_of n2 hy⟩
theorem index_none {x y a : Int} (hx : Sm x) (hy : Sm y) (ha : Sm a) (h : x < 1 ∨ y < 0 ∨ x * x - (a * a - 1) * y * y ≠ 1) : mi_index_of [tD x y, .int a] = .ok (.fz .non) := by
  obtain ⟨m1, m2, m3, m4⟩ := i_norm hx hy ha
  clear hx hy ha
  have e : B_index_of 1000000 (startN 8 [tD x y, .int a]) = .rt (.fz .non) := by
    unfold B_index_of
    refine (seq_if0 i_first).trans ?_
    refine (seq_asg (tD x y) _ (by simp [startN]) rfl).trans ?_
    refine (seq_ifT ?_).trans ?_
    · by_cases h1 : x < 1
      · simp [startN, h1]
      by_cases h2 : y < 0
      · simp [startN, h1, h2]
      have h3 : x * x - (a * a - 1) * y * y ≠ 1 := by
        rcases h with h | h | h
        · exact absurd h h1
        · exact absurd h h2
        · exact h
      simp [startN, h1, h2, h3, m1, m2, m3, m4]
    · simp
  exact congrArg outR e
theorem index_ok {a : Int} {n : Nat} (h2 : 2 ≤ a) (ha : Sm a) (hn : n < 500000) (hS : ∀ w, w ≤ n → Sm (X a w) ∧ Sm (Y a w)) : mi_index_of [pD a n, .int a] = .ok (.fz (nD n)) := by
  have hs2 : (2 : Nat) ≤ sizeLine := by rw [sizeLine_eq]; decide
  obtain ⟨m1, m2, m3, m4⟩ := i_norm (hS n (Nat.le_refl _)).1 (hS n (Nat.le_refl _)).2 ha
  obtain ⟨p1, p2, p3⟩ := pos h2 n
  have hnm := norm a n
  have eρ := iloop (s0 := .fz (pD a n)) (s3 := .fz (.int (X a n))) (s7 := .un) h2 ha (fun w hw => (hS w hw).2) n 0 1000000 (by omega) (by omega)
  have y0 : Y a 0 = 0 := rfl
  have y1 : Y a (0 + 1) = 1 := by simp [Y, P]
  rw [y0, y1] at eρ
  have e : B_index_of 1000000 (startN 8 [pD a n, .int a]) = .rt (.fz (nD n)) := by
    unfold B_index_of
    refine (seq_if0 i_first).trans ?_
    refine (seq_asg (pD a n) _ (by simp [startN]) rfl).trans ?_
    refine (seq_if0 ?_).trans ?_
    · have q1 : ¬ X a n < 1 := by omega
      have q2 : ¬ Y a n < 0 := by omega
      simp [startN, q1, q2, m1, m2, m3, m4, hnm]
    refine (seq_set (.fz (.int 0)) (by simp)).trans ?_
    refine (seq_asg (tD 0 1) _ (by simp [hs2]) rfl).trans ?_
    refine (seq_while _ eρ).trans ?_
    simp
  exact congrArg outR e
def pL (a : Int) : Nat → List D
  | 0 => []
  | n + 1 => pL a n ++ [pD a n]
theorem pL_len (a : Int) : ∀ n, (pL a n).length = n
  | 0 => rfl
  | n + 1 => by
    show (pL a n ++ [pD a n]).length = n + 1
    rw [List.length_append, pL_len a n]; rfl
theorem pL_take {a : Int} {k : Nat} : ∀ {n : Nat}, k ≤ n → (pL a n).take k = pL a k
  | 0, h => by
    obtain rfl : k = 0 := by omega
    rfl
  | n + 1, h => by
    by_cases e : k = n + 1
    · subst e; exact List.take_of_length_le (Nat.le_of_eq (pL_len a (n + 1)))
    · show (pL a n ++ [pD a n]).take k = _
      rw [List.take_append_of_le_length (by rw [pL_len]; omega)]
      exact pL_take (by omega)
theorem pL_get {a : Int} {k : Nat} : ∀ {n : Nat}, k < n → (pL a n)[k]? = some (pD a k)
  | 0, h => absurd h (Nat.not_lt_zero _)
  | n + 1, h => by
    show (pL a n ++ [pD a n])[k]? = _
    by_cases e : k = n
    · subst e
      rw [List.getElem?_append_right (by rw [pL_len]; omega), pL_len, Nat.sub_self]; rfl
    · rw [List.getElem?_append_left (by rw [pL_len]; omega)]
      exact pL_get (by omega)
theorem pL_neg2 (a : Int) (n : Nat) : atI (pL a (n + 2)) (-2) = some (pD a n) := by
  unfold atI ixN
  rw [pL_len, if_neg (by decide), if_pos (by omega)]
  show (pL a (n + 2))[_]? = _
  rw [show ((-2 + ((n + 2 : Nat) : Int)).toNat) = n by omega]
  exact pL_get (by omega)
theorem qstep {m : Nat} {a : Int} {j : Nat} {s1 s3 s4 s5 : Sl} (hj : j < 1000) (h2 : 2 ≤ a) (ha : Sm a) (hX : Sm (X a (j + 1)) ∧ Sm (Y a (j + 1))) :
    ∃ s4' s5', L1__law_pairs m [.fz (.int a), s1, .ow (.lst (pL a (j + 2))), s3, s4, s5] = .nx [.fz (.int a), s1, .ow (.lst (pL a (j + 3))), s3, s4', s5'] := by
  have hs2 : (2 : Nat) ≤ sizeLine := by rw [sizeLine_eq]; decide
  have hsz : (pL a (j + 2)).length < sizeLine := by rw [pL_len, sizeLine_eq]; omega
  have g1 := pL_neg2 a j
  have g2 : atI (pL a (j + 2)) (-1) = some (pD a (j + 1)) := atI_last (pL a (j + 1)) _
  have m1 : mulOk 2 a = true := mulOk_of (a := 2) (b := 20000) (by decide) ha
  have h2a : ((2 : Int) * a).natAbs < 2 ^ 20002 := nam (p := 2) (show (2 : Int).natAbs < 2 ^ 2 by decide) ha (by decide)
  have m2 : mulOk (2 * a) (X a (j + 1)) = true := mulOk_of h2a hX.1
  have m3 : mulOk (2 * a) (Y a (j + 1)) = true := mulOk_of h2a hX.2
  have r1 := X_rec a j
  have r2 := Y_rec a j
  have i0 : ∀ x y : Int, atI [D.int x, D.int y] 0 = some (.int x) := fun x y => atI_nat (j := 0) rfl
  have i1 : ∀ x y : Int, atI [D.int x, D.int y] 1 = some (.int y) := fun x y => atI_nat (j := 1) rfl
  refine ⟨.fz (pD a j), .fz (pD a (j + 1)), ?_⟩
  have el : pL a (j + 3) = pL a (j + 2) ++ [tD (2 * a * X a (j + 1) - X a j) (2 * a * Y a (j + 1) - Y a j)] := by
    rw [← r1, ← r2]; rfl
  rw [el]
  unfold L1__law_pairs
  refine (seq_par (pD a j) (pD a (j + 1)) (by simp [g1, g2])).trans ?_
  simp [hsz, hs2, m1, m2, m3, i0, i1]
theorem cell0 (ns : List Int) (k : Nat) (hk : k < 1000) : ∃ v : Int, mi__law_cell [.sq ns, nD k] = .ok (.fz (.int v)) := by
  by_cases h : k < ns.length
  · refine ⟨ns[k], ?_⟩
    have ha : atI ns (k : Int) = some ns[k] := atI_nat (by rw [List.getElem?_eq_getElem h])
    have e : B__law_cell 1000000 (startN 2 [.sq ns, nD k]) = .rt (.fz (.int ns[k])) := by
      unfold B__law_cell
      simp [startN, h, ha]
    exact congrArg outR e
  · refine ⟨0, ?_⟩
    have e : B__law_cell 1000000 (startN 2 [.sq ns, nD k]) = .rt (.fz (.int 0)) := by
      unfold B__law_cell
      simp [startN, h]
    exact congrArg outR e
theorem pairs_ok {a : Int} {n : Nat} (hn : n ≤ 500) (h2 : 2 ≤ a) (ha : Sm a) (hS : ∀ w, w ≤ n + 1 → Sm (X a w) ∧ Sm (Y a w)) : mi__law_pairs [.int a, nD n] = .ok (.ow (.lst (pL a n))) := by
  have hs2 : (2 : Nat) ≤ sizeLine := by rw [sizeLine_eq]; decide
  have r1 : rngOk (n : Int) = true := rngOk_small (by omega) (by omega)
  have e2 : pL a 2 = [tD 1 0, tD a 1] := by
    show [pD a 0, pD a 1] = _
    simp [pD, X, Y, P]
  obtain ⟨ρ, eρ, x, y, z, rfl⟩ := sLoop_P (g := gN 3) (b := L1__law_pairs) (n := 1000000) (fun j ρ => ∃ x y z, ρ = [.fz (.int a), .fz (nD n), .ow (.lst (pL a (j + 2))), x, y, z])
    (ds := rngL 0 n) (ρ := [.fz (.int a), .fz (nD n), .ow (.lst (pL a (0 + 2))), .un, .un, .un]) ⟨.un, .un, .un, rfl⟩ fun j d ρ hj h => by
    obtain ⟨rfl, hj2⟩ := rngL_get hj
    obtain ⟨x, y, z, rfl⟩ := h
    simp only [gN, RP_ok, List.set_cons_succ, List.set_cons_zero]
    obtain ⟨x', y', e⟩ := qstep (m := 1000000) (a := a) (j := j) (s1 := .fz (nD n)) (s3 := .fz (.int (0 + (j : Nat)))) (s4 := y) (s5 := z) (by omega) h2 ha (hS (j + 1) (by omega))
    rw [e, NxP_nx]
    exact ⟨_, _, _, rfl⟩
  rw [rngL_len, Int.sub_zero, Int.toNat_natCast] at eρ
  have e : B__law_pairs 1000000 (startN 6 [.int a, nD n]) = .rt (.ow (.lst (pL a n))) := by
    unfold B__law_pairs
    refine (seq_own (.ow (.lst (pL a (0 + 2)))) (by rw [Nat.zero_add, e2]; simp [startN, hs2])).trans ?_
    refine (seq_for (rngL 0 n) _ (by simp [startN, r1]) eρ).trans ?_
    refine seq_ret _ ?_
    have : cutG (pL a (n + 2)) none (some (n : Int)) = pL a n := by
      rw [cutG_take (by omega), Int.toNat_natCast]
      exact pL_take (by omega)
    simp [this]
  exact congrArg outR e
/-- all bounds of the walk, from the base -/
theorem sm_all {a : Int} (h2 : 2 ≤ a) (h : 2 * a ≤ 2 ^ 101) {n : Nat} (hn : n ≤ 190) : Sm a ∧ ∀ w, w ≤ n → Sm (X a w) ∧ Sm (Y a w) := by
  have key : ∀ v : Int, 0 ≤ v → ∀ k, v ≤ 2 ^ k → k < 20000 → Sm v := fun v h0 k hk h1 => by
    unfold Sm
    have : v.natAbs ≤ 2 ^ k := by
      have h3 : (v.natAbs : Int) = v := by omega
      have h4 : ((2 ^ k : Nat) : Int) = 2 ^ k := by rw [Int.natCast_pow]; rfl
      omega
    exact Nat.lt_of_le_of_lt this (Nat.pow_lt_pow_right (by decide) h1)
  refine ⟨key a (by omega) 101 (by omega) (by decide), fun w hw => ?_⟩
  have hb := bnd h2 h w
  have hp := pos h2 w
  exact ⟨key _ (by omega) _ hb.1 (by omega), key _ (by omega) _ hb.2 (by omega)⟩
theorem sm_small {a : Int} (h2 : 2 ≤ a) (h : 2 * a ≤ 2 ^ 4) {n : Nat} (hn : n ≤ 4000) : Sm a ∧ ∀ w, w ≤ n → Sm (X a w) ∧ Sm (Y a w) := by
  have key : ∀ v : Int, 0 ≤ v → ∀ k, v ≤ 2 ^ k → k < 20000 → Sm v := fun v h0 k hk h1 => by
    unfold Sm
    have : v.natAbs ≤ 2 ^ k := by
      have h3 : (v.natAbs : Int) = v := by omega
      have h4 : ((2 ^ k : Nat) : Int) = 2 ^ k := by rw [Int.natCast_pow]; rfl
      omega
    exact Nat.lt_of_le_of_lt this (Nat.pow_lt_pow_right (by decide) h1)
  refine ⟨key a (by omega) 4 (by omega) (by decide), fun w hw => ?_⟩
  have hb := bnd h2 h w
  have hp := pos h2 w
  exact ⟨key _ (by omega) _ hb.1 (by omega), key _ (by omega) _ hb.2 (by omega)⟩
end RL

namespace RL
open PySem PySem.Spec PyProof.Rows L2 Mp PM
open Mp (D Sem)
/-- x and y leave the rests of the pair v -/
def Cg (m a : Int) (v : Nat) (x y : Int) : Prop := m ∣ x - X a v ∧ m ∣ y - Y a v
theorem Cg.refl {m a : Int} {v : Nat} : Cg m a v (X a v) (Y a v) := ⟨⟨0, by grind⟩, ⟨0, by grind⟩⟩
theorem Cg.emod {m a : Int} {v : Nat} {x y : Int} (h : Cg m a v x y) : Cg m a v (x % m) (y % m) := by
  obtain ⟨⟨k, hk⟩, ⟨l, hl⟩⟩ := h
  have e1 := Int.mul_ediv_add_emod x m
  have e2 := Int.mul_ediv_add_emod y m
  exact ⟨⟨k - x / m, by grind⟩, ⟨l - y / m, by grind⟩⟩
theorem Cg.one {m a : Int} : Cg m a 1 a 1 := by
  have e : X a 1 = a ∧ Y a 1 = 1 := by simp [X, Y, P]
  have h : Cg m a 1 (X a 1) (Y a 1) := Cg.refl
  rw [e.1, e.2] at h
  exact h
theorem Cg.zero {m a : Int} : Cg m a 0 1 0 := Cg.refl
theorem Cg.zero' {m a : Int} : Cg m a 0 (1 % m) 0 := by
  have h := (Cg.zero (m := m) (a := a)).emod
  rw [Int.zero_emod] at h
  exact h
theorem Cg.add {m a : Int} {v w : Nat} {x y u t : Int} (h : Cg m a v x y) (g : Cg m a w u t) : Cg m a (v + w) (x * u + (a * a - 1) * y * t) (x * t + y * u) := by
  obtain ⟨⟨k1, h1⟩, ⟨k2, h2⟩⟩ := h
  obtain ⟨⟨k3, h3⟩, ⟨k4, h4⟩⟩ := g
  obtain ⟨e1, e2⟩ := PM.add a v w
  unfold Cg
  rw [e1, e2]
  generalize X a v = X1 at *
  generalize Y a v = Y1 at *
  generalize X a w = X2 at *
  generalize Y a w = Y2 at *
  exact ⟨⟨k1 * u + X1 * k3 + (a * a - 1) * (k2 * t + Y1 * k4), by grind⟩, ⟨k1 * t + X1 * k4 + k2 * u + Y1 * k3, by grind⟩⟩
theorem Cg.dbl {m a : Int} {v : Nat} {x y : Int} (h : Cg m a v x y) : Cg m a (2 * v) (2 * x * x - 1) (2 * x * y) := by
  obtain ⟨⟨k1, h1⟩, ⟨k2, h2⟩⟩ := h
  obtain ⟨e1, e2⟩ := PM.add a v v
  have hn := norm a v
  unfold Cg
  rw [show 2 * v = v + v by omega, e1, e2]
  generalize X a v = X1 at *
  generalize Y a v = Y1 at *
  exact ⟨⟨2 * (k1 * x + X1 * k1), by grind⟩, ⟨2 * (k1 * y + X1 * k2), by grind⟩⟩
theorem Cg.step {m a : Int} {v : Nat} {x y : Int} (h : Cg m a v x y) : Cg m a (v + 1) (a * x + (a * a - 1) * y) (x + a * y) := by
  have := h.add (Cg.one (m := m) (a := a))
  rw [show x * a + (a * a - 1) * y * 1 = a * x + (a * a - 1) * y by grind, show x * 1 + y * a = x + a * y by grind] at this
  exact this
theorem Cg.step2 {m a : Int} {v : Nat} {x y u t : Int} (h : Cg m a v x y) (g : Cg m a (v + 1) u t) : Cg m a (v + 2) (2 * a * u - x) (2 * a * t - y) := by
  obtain ⟨⟨k1, h1⟩, ⟨k2, h2⟩⟩ := h
  obtain ⟨⟨k3, h3⟩, ⟨k4, h4⟩⟩ := g
  have e1 := X_rec a v
  have e2 := Y_rec a v
  unfold Cg
  rw [e1, e2]
  generalize X a v = X1 at *
  generalize Y a v = Y1 at *
  generalize X a (v + 1) = X2 at *
  generalize Y a (v + 1) = Y2 at *
  exact ⟨⟨2 * a * k3 - k1, by grind⟩, ⟨2 * a * k4 - k2, by grind⟩⟩
theorem emod_of_dvd {m x y : Int} (h : m ∣ x - y) : x % m = y % m := by
  obtain ⟨k, hk⟩ := h
  rw [show x = y + m * k by omega, Int.add_mul_emod_self_left]
theorem Cg.mod {m a : Int} {v : Nat} {x y : Int} (h : Cg m a v x y) : x % m = X a v % m ∧ y % m = Y a v % m := ⟨emod_of_dvd h.1, emod_of_dvd h.2⟩
/-- the pairs of bases that leave the same rest -/
theorem base_dvd {m a b : Int} (h : m ∣ b - a) : ∀ n, m ∣ X b n - X a n ∧ m ∣ Y b n - Y a n
  | 0 => by simp [X, Y, P]
  | n + 1 => by
    obtain ⟨⟨k1, h1⟩, ⟨k2, h2⟩⟩ := base_dvd h n
    obtain ⟨k, hk⟩ := h
    rw [X_succ b, X_succ a, Y_succ b, Y_succ a]
    generalize X a n = X1 at *
    generalize Y a n = Y1 at *
    generalize X b n = X2 at *
    generalize Y b n = Y2 at *
    exact ⟨⟨k1 * b + X1 * k + (b * b - 1) * k2 + (b + a) * k * Y1, by grind⟩, ⟨k1 + k2 * b + Y1 * k, by grind⟩⟩
theorem Cg.base {m a b : Int} {v : Nat} {x y : Int} (h : Cg m b v x y) (hb : m ∣ b - a) : Cg m a v x y := by
  obtain ⟨h1, h2⟩ := base_dvd hb v
  have e1 : x - X a v = (x - X b v) + (X b v - X a v) := by omega
  have e2 : y - Y a v = (y - Y b v) + (Y b v - Y a v) := by omega
  exact ⟨e1 ▸ Int.dvd_add h.1 h1, e2 ▸ Int.dvd_add h.2 h2⟩
theorem added_sz {x y u v a : Int} (hx : Sz 5000 x) (hy : Sz 5000 y) (hu : Sz 5000 u) (hv : Sz 5000 v) (ha : Sz 5000 a) :
    mi_added [tD x y, tD u v, .int a] = .ok (.fz (tD (x * u + (a * a - 1) * y * v) (x * v + y * u))) :=
  added_ok (hx.mono (by decide)) (hy.mono (by decide)) (hu.mono (by decide)) (hv.mono (by decide)) (ha.mono (by decide))
theorem rest_step {n : Nat} {s0 s5 s6 : Sl} {a m x y : Int} {v d : Nat} (ha : Sz 2000 a) (hm : 0 < m) (hm2 : Sz 2000 m) (hx : Sz 2000 x) (hy : Sz 2000 y) (h : Cg m a v x y) (hd : d ≤ 1) :
    ∃ x' y' s5' s6', L1_pair_rest n [s0, .fz (.int a), .fz (.int m), .fz (tD x y), .fz (nD d), s5, s6] = .nx [s0, .fz (.int a), .fz (.int m), .fz (tD x' y'), .fz (nD d), s5', s6'] ∧ Sz 2000 x' ∧ Sz 2000 y' ∧ Cg m a (2 * v + d) x' y' ∧ 0 ≤ x' ∧ 0 ≤ y' ∧ x' < m ∧ y' < m := by
  have hs2 : (2 : Nat) ≤ sizeLine := by rw [sizeLine_eq]; decide
  have c1 := h.add h
  have q1 := added_sz (hx.mono (by decide)) (hy.mono (by decide)) (hx.mono (by decide)) (hy.mono (by decide)) (ha.mono (by decide))
  rw [show v + v = 2 * v by omega] at c1
  generalize x * x + (a * a - 1) * y * y = x1 at *
  generalize x * y + y * x = y1 at *
  have r0 : ∀ z : Int, 0 ≤ z % m ∧ z % m < m := fun z => ⟨Int.emod_nonneg z (by omega), Int.emod_lt_of_pos z hm⟩
  unfold L1_pair_rest
  rcases Nat.le_one_iff_eq_zero_or_eq_one.mp hd with rfl | rfl
  · refine ⟨x1 % m, y1 % m, .fz (.int x1), .fz (.int y1), ?_, hm2.emod hm, hm2.emod hm, c1.emod, (r0 x1).1, (r0 y1).1, (r0 x1).2, (r0 y1).2⟩
    refine (seq_asg (tD x1 y1) _ (by simp [q1]) rfl).trans ?_
    refine (seq_if0 (by simp)).trans ?_
    simp [hs2, hm]
  · have c2 := c1.emod.add (Cg.one (m := m) (a := a))
    have q2 := added_sz (x := x1 % m) (y := y1 % m) (u := a) (v := 1) (a := a) ((hm2.emod hm).mono (by decide)) ((hm2.emod hm).mono (by decide)) (ha.mono (by decide)) ((Sz.lit (by decide)).mono (by decide)) (ha.mono (by decide))
    generalize x1 % m * a + (a * a - 1) * (y1 % m) * 1 = x2 at *
    generalize x1 % m * 1 + y1 % m * a = y2 at *
    refine ⟨x2 % m, y2 % m, .fz (.int x2), .fz (.int y2), ?_, hm2.emod hm, hm2.emod hm, c2.emod, (r0 x2).1, (r0 y2).1, (r0 x2).2, (r0 y2).2⟩
    refine (seq_asg (tD x1 y1) _ (by simp [q1]) rfl).trans ?_
    refine (seq_ifT (by simp)).trans ?_
    have e : sAsg (callF mi_added (consA (toV (tupF (consA (toV (toF (op2 modD (rdV 5) (rdV 2)))) (consA (toV (toF (op2 modD (rdV 6) (rdV 2)))) (nilA))))) (consA (toV (tupF (consA (toV (rdF 1)) (consA (toV (toF (cV (.int 1)))) (nilA))))) (consA (toV (rdF 1)) (nilA))))) (gTp 2 (gCn (gN 5) (gCn (gN 6) (gNl)))) n
        [s0, .fz (.int a), .fz (.int m), .fz (tD x y), .fz (nD 1), .fz (.int x1), .fz (.int y1)] = .nx [s0, .fz (.int a), .fz (.int m), .fz (tD x y), .fz (nD 1), .fz (.int x2), .fz (.int y2)] := by
      simp [hs2, hm, q2]
    refine (congrArg (fun o => oSeq o _) e).trans ?_
    simp [hs2, hm]
theorem rest_loop {n : Nat} {s0 : Sl} {a m : Int} (ha : Sz 2000 a) (hm : 0 < m) (hm2 : Sz 2000 m) : ∀ (l : List Nat) (v : Nat) (x y : Int) (s4 s5 s6 : Sl), (∀ d ∈ l, d ≤ 1) → Sz 2000 x → Sz 2000 y → Cg m a v x y → 0 ≤ x → 0 ≤ y → x < m → y < m →
    ∃ x' y' s4' s5' s6', sLoop (gN 4) L1_pair_rest n (l.map nD) [s0, .fz (.int a), .fz (.int m), .fz (tD x y), s4, s5, s6] = .nx [s0, .fz (.int a), .fz (.int m), .fz (tD x' y'), s4', s5', s6'] ∧ Cg m a (vf v l) x' y' ∧ 0 ≤ x' ∧ 0 ≤ y' ∧ x' < m ∧ y' < m
  | [], v, x, y, s4, s5, s6, _, hx, hy, h, h1, h2, h3, h4 => ⟨x, y, s4, s5, s6, rfl, h, h1, h2, h3, h4⟩
  | d :: l, v, x, y, s4, s5, s6, hd, hx, hy, h, h1, h2, h3, h4 => by
    obtain ⟨x', y', s5', s6', e, hx', hy', h', g1, g2, g3, g4⟩ := rest_step (n := n) (s0 := s0) (s5 := s5) (s6 := s6) ha hm hm2 hx hy h (hd d List.mem_cons_self)
    obtain ⟨x2, y2, t4, t5, t6, e2, r⟩ := rest_loop (n := n) (s0 := s0) ha hm hm2 l (2 * v + d) x' y' (.fz (nD d)) s5' s6' (fun y hy => hd y (List.mem_cons_of_mem _ hy)) hx' hy' h' g1 g2 g3 g4
    refine ⟨x2, y2, t4, t5, t6, ?_, r⟩
    rw [List.map_cons]
    show oLoop (L1_pair_rest n [s0, .fz (.int a), .fz (.int m), .fz (tD x y), .fz (nD d), s5, s6]) _ = _
    rw [e]
    exact e2
theorem rest_ok {a m : Int} {n k : Nat} (ha : Sz 2000 a) (hm : 0 < m) (hm2 : Sz 2000 m) (hn : n < 2 ^ k) (hk : k < 20000) : mi_pair_rest [nD n, .int a, .int m] = .ok (.fz (tD (X a n % m) (Y a n % m))) := by
  have hs2 : (2 : Nat) ≤ sizeLine := by rw [sizeLine_eq]; decide
  have hv := vf_bits k n hn
  have hd := digits_ok k n hn hk
  obtain ⟨x, y, s4, s5, s6, eρ, hc, h1, h2, h3, h4⟩ := rest_loop (n := 1000000) (s0 := .fz (nD n)) ha hm hm2 (bits k n).reverse 0 (1 % m) 0 .un .un .un (fun d h => bits_le k n d (List.mem_reverse.mp h)) (hm2.emod hm) ((Sz.lit (by decide)).mono (by decide)) Cg.zero' (Int.emod_nonneg _ (by omega)) (by omega) (Int.emod_lt_of_pos _ hm) hm
  rw [hv] at hc
  obtain ⟨c1, c2⟩ := hc.mod
  rw [Int.emod_eq_of_lt h1 h3] at c1
  rw [Int.emod_eq_of_lt h2 h4] at c2
  subst c1 c2
  have e : B_pair_rest 1000000 (startN 7 [nD n, .int a, .int m]) = .rt (.fz (tD (X a n % m) (Y a n % m))) := by
    unfold B_pair_rest
    refine (seq_set (.fz (tD (1 % m) 0)) (by simp [hs2, startN, hm])).trans ?_
    refine (seq_for ((bits k n).reverse.map nD) _ (by simp [startN, hd]) eρ).trans ?_
    simp
  exact congrArg outR e
end RL

namespace RL
open PySem PySem.Spec PyProof.Rows L2 Mp PM
open Mp (D Sem)
/-- two of N + 1 numbers below N are the same -/
theorem pigeon : ∀ (N : Nat) (f : Nat → Nat), (∀ i, i ≤ N → f i < N) → ∃ i j, i < j ∧ j ≤ N ∧ f i = f j
  | 0, f, h => absurd (h 0 (Nat.le_refl 0)) (Nat.not_lt_zero _)
  | N + 1, f, h => by
    by_cases hx : ∃ i, i ≤ N ∧ f i = f (N + 1)
    · obtain ⟨i, hi, e⟩ := hx
      exact ⟨i, N + 1, by omega, Nat.le_refl _, e⟩
    · -- swap the greatest value away
      have hx : ∀ i, i ≤ N → f i ≠ f (N + 1) := fun i hi e => hx ⟨i, hi, e⟩
      obtain ⟨i, j, h1, h2, h3⟩ := pigeon N (fun i => if f i = N then f (N + 1) else f i) fun i hi => by
        have a1 := h i (by omega)
        have a2 := h (N + 1) (Nat.le_refl _)
        have a3 := hx i hi
        show (if f i = N then f (N + 1) else f i) < N
        by_cases c : f i = N
        · rw [if_pos c]; omega
        · rw [if_neg c]; omega
      refine ⟨i, j, h1, by omega, ?_⟩
      have h3 : (if f i = N then f (N + 1) else f i) = (if f j = N then f (N + 1) else f j) := h3
      have b1 := hx i (by omega)
      have b2 := hx j h2
      by_cases c : f i = N
      · by_cases d : f j = N
        · rw [c, d]
        · rw [if_pos c, if_neg d] at h3; exact absurd h3.symm b2
      · by_cases d : f j = N
        · rw [if_neg c, if_pos d] at h3; exact absurd h3 b1
        · rw [if_neg c, if_neg d] at h3; exact h3
theorem least {p : Nat → Prop} : ∀ n, p n → ∃ m, m ≤ n ∧ p m ∧ ∀ k, k < m → ¬ p k := by
  intro n
  induction n using Nat.strongRecOn with
  | _ n ih =>
    intro h
    by_cases hx : ∃ k, k < n ∧ p k
    · obtain ⟨k, hk, hp⟩ := hx
      obtain ⟨m, h1, h2, h3⟩ := ih k hk hp
      exact ⟨m, by omega, h2, h3⟩
    · exact ⟨n, Nat.le_refl _, h, fun k hk hp => hx ⟨k, hk, hp⟩⟩
/-- some member is divided -/
theorem rank_ex (a : Int) {m : Nat} (hm : 1 ≤ m) : ∃ n, 1 ≤ n ∧ n ≤ m * m ∧ (m : Int) ∣ Y a n := by
  have m0 : (m : Int) ≠ 0 := by omega
  have mp : (0 : Int) < m := by omega
  have key : ∀ z : Int, ∃ r : Nat, z % (m : Int) = r ∧ r < m := fun z => ⟨(z % (m : Int)).toNat, by
    have h1 := Int.emod_nonneg z m0
    have h2 := Int.emod_lt_of_pos z mp
    omega⟩
  obtain ⟨i, j, h1, h2, h3⟩ := pigeon (m * m) (fun i => (X a i % (m : Int)).toNat * m + (Y a i % (m : Int)).toNat) fun i _ => by
    obtain ⟨r, e1, l1⟩ := key (X a i)
    obtain ⟨s, e2, l2⟩ := key (Y a i)
    show (X a i % (m : Int)).toNat * m + (Y a i % (m : Int)).toNat < m * m
    rw [e1, e2, Int.toNat_natCast, Int.toNat_natCast]
    have : (r + 1) * m ≤ m * m := Nat.mul_le_mul_right m l1
    rw [Nat.add_mul, Nat.one_mul] at this
    omega
  obtain ⟨r, e1, l1⟩ := key (X a i)
  obtain ⟨s, e2, l2⟩ := key (Y a i)
  obtain ⟨r', e1', l1'⟩ := key (X a j)
  obtain ⟨s', e2', l2'⟩ := key (Y a j)
  have h3 : (X a i % (m : Int)).toNat * m + (Y a i % (m : Int)).toNat = (X a j % (m : Int)).toNat * m + (Y a j % (m : Int)).toNat := h3
  rw [e1, e2, e1', e2', Int.toNat_natCast, Int.toNat_natCast, Int.toNat_natCast, Int.toNat_natCast] at h3
  have hr : r = r' := by
    have a1 := congrArg (· / m) h3
    simp only [Nat.mul_comm _ m, Nat.mul_add_div (show m > 0 by omega), Nat.div_eq_of_lt l2, Nat.div_eq_of_lt l2'] at a1
    omega
  subst hr
  have hs : s = s' := by omega
  subst hs
  have d1 : (m : Int) ∣ X a j - X a i := Int.dvd_of_emod_eq_zero (Int.emod_eq_emod_iff_emod_sub_eq_zero.mp (by rw [e1, e1']))
  have d2 : (m : Int) ∣ Y a j - Y a i := Int.dvd_of_emod_eq_zero (Int.emod_eq_emod_iff_emod_sub_eq_zero.mp (by rw [e2, e2']))
  refine ⟨j - i, by omega, by omega, ?_⟩
  have hsub := (PM.sub a (j - i) i).2
  rw [show j - i + i = j by omega] at hsub
  rw [← hsub]
  obtain ⟨u, hu⟩ := d1
  obtain ⟨v, hv⟩ := d2
  generalize X a i = x1 at *
  generalize Y a i = y1 at *
  generalize X a j = x2 at *
  generalize Y a j = y2 at *
  exact ⟨v * x1 - u * y1, by grind⟩
/-- the rank: the least such index -/
theorem rank_least (a : Int) {m : Nat} (hm : 1 ≤ m) : ∃ r, 1 ≤ r ∧ r ≤ m * m ∧ (m : Int) ∣ Y a r ∧ ∀ t, 1 ≤ t → t < r → ¬ (m : Int) ∣ Y a t := by
  obtain ⟨n, h1, h2, h3⟩ := rank_ex a hm
  obtain ⟨r, g1, ⟨g2, g3⟩, g4⟩ := least (p := fun n => 1 ≤ n ∧ (m : Int) ∣ Y a n) n ⟨h1, h3⟩
  exact ⟨r, g2, by omega, g3, fun t t1 t2 td => g4 t t2 ⟨t1, td⟩⟩
theorem dvd_mul_index {a : Int} {m : Int} {r : Nat} (h : m ∣ Y a r) : ∀ q, m ∣ Y a (r * q)
  | 0 => by simp [Y, P]
  | q + 1 => by
    obtain ⟨u, hu⟩ := dvd_mul_index h q
    obtain ⟨v, hv⟩ := h
    rw [Nat.mul_succ, (PM.add a (r * q) r).2]
    generalize X a (r * q) = x1 at *
    generalize Y a (r * q) = y1 at *
    generalize X a r = x2 at *
    generalize Y a r = y2 at *
    exact ⟨x1 * v + u * x2, by grind⟩
theorem rank_iff {a : Int} {m r : Nat} (hr : 1 ≤ r) (h : (m : Int) ∣ Y a r) (hl : ∀ t, 1 ≤ t → t < r → ¬ (m : Int) ∣ Y a t) (n : Nat) : (m : Int) ∣ Y a n ↔ n % r = 0 := by
  have hq := dvd_mul_index h (n / r)
  have hd := Nat.div_add_mod n r
  have hlt := Nat.mod_lt n (show r > 0 by omega)
  generalize n % r = t at *
  constructor
  · intro hn
    by_cases h0 : t = 0
    · exact h0
    · exfalso
      refine hl t (by omega) hlt ?_
      have hsub := (PM.sub a t (r * (n / r))).2
      rw [show t + r * (n / r) = n by omega] at hsub
      rw [← hsub]
      obtain ⟨u, hu⟩ := hn
      obtain ⟨v, hv⟩ := hq
      rw [hu, hv]
      exact ⟨u * X a (r * (n / r)) - X a n * v, by grind⟩
  · rintro rfl
    rw [Nat.add_zero] at hd
    rw [hd] at hq
    exact hq
theorem rank_loop {a m : Int} {s0 s1 : Sl} {r : Nat} (ha : Sz 2000 a) (hm : 0 < m) (hm2 : Sz 2000 m) (h : m ∣ Y a r) (hl : ∀ t, 1 ≤ t → t < r → ¬ m ∣ Y a t) : ∀ (d k n : Nat), k + d = r → 1 ≤ k → d < n →
    ∃ s4, sWhile C1_rank L1_rank n [.fz (.int a), .fz (.int m), .fz (nD k), .fz (.int (Y a k % m)), .fz (.int (Y a (k + 1) % m))] = .nx [.fz (.int a), .fz (.int m), .fz (nD r), .fz (.int 0), s4]
  | 0, k, n, hk, h1, hn => by
    obtain ⟨n, rfl⟩ : ∃ j, n = j + 1 := ⟨n - 1, by omega⟩
    obtain rfl : k = r := by omega
    have e0 : Y a k % m = 0 := Int.emod_eq_zero_of_dvd h
    refine ⟨.fz (.int (Y a (k + 1) % m)), ?_⟩
    rw [e0]
    exact sWhile_stop (by unfold C1_rank; simp)
  | d + 1, k, n, hk, h1, hn => by
    obtain ⟨n, rfl⟩ : ∃ j, n = j + 1 := ⟨n - 1, by omega⟩
    have ne : Y a k % m ≠ 0 := fun z => hl k h1 (by omega) (Int.dvd_of_emod_eq_zero z)
    obtain ⟨s4, e⟩ := rank_loop (s0 := s0) (s1 := s1) ha hm hm2 h hl d (k + 1) n (by omega) (by omega) (by omega)
    refine ⟨s4, ?_⟩
    rw [← e]
    have z1 : Sz 2000 (Y a (k + 1) % m) := hm2.emod hm
    have m1 : mulOk 2 a = true := mulOk_l (by decide) (by decide)
    have m2 : mulOk (2 * a) (Y a (k + 1) % m) = true := by (exact Mp.mulOk_sz (by (repeat (first | assumption | apply Mp.Sz.mul | apply Mp.Sz.add | apply Mp.Sz.sub | apply Mp.Sz.neg | exact Mp.Sz.lit (by decide)))) (by (repeat (first | assumption | apply Mp.Sz.mul | apply Mp.Sz.add | apply Mp.Sz.sub | apply Mp.Sz.neg | exact Mp.Sz.lit (by decide)))) (by decide))
    have e3 : (2 * a * (Y a (k + 1) % m) - Y a k % m) % m = Y a (k + 2) % m := by
      have c1 : Cg m a k (X a k) (Y a k % m) := ⟨Cg.refl.1, Cg.refl.emod.2⟩
      have c2 : Cg m a (k + 1) (X a (k + 1)) (Y a (k + 1) % m) := ⟨Cg.refl.1, Cg.refl.emod.2⟩
      exact (c1.step2 c2).mod.2
    refine sWhile_step (by unfold C1_rank; simp [ne]) ?_
    show L1_rank n _ = .nx [.fz (.int a), .fz (.int m), .fz (nD (k + 1)), .fz (.int (Y a (k + 1) % m)), .fz (.int (Y a (k + 2) % m))]
    rw [← e3]
    generalize Y a (k + 1) % m = y1 at *
    generalize Y a k % m = y0 at *
    unfold L1_rank
    refine Mp.st_par (.int y1) (.int ((2 * a * y1 - y0) % m)) _ (by simp [sizeLine_eq, m1, m2, hm]) (by (first | (simp only [List.set_cons_succ, List.set_cons_zero, Mp.frzL, Mp.keepS, if_true, if_false, Bool.false_eq_true] <;> rfl) | rfl)) ?_
    simp
theorem rank_ok {a : Int} {m : Nat} (ha : Sz 2000 a) (hm : 1 ≤ m) (hm2 : m ≤ 900000) : ∃ r, 1 ≤ r ∧ r ≤ m * m ∧ (m : Int) ∣ Y a r ∧ (∀ t, 1 ≤ t → t < r → ¬ (m : Int) ∣ Y a t) ∧ mi_rank [.int a, nD m] = .ok (.fz (nD r)) := by
  obtain ⟨r, h1, h2, h3, h4⟩ := rank_least a hm
  refine ⟨r, h1, h2, h3, h4, ?_⟩
  have hr : r ≤ 900000 * 900000 := Nat.le_trans h2 (Nat.mul_le_mul hm2 hm2)
  have m0 : (0 : Int) < m := by omega
  obtain ⟨s4, e1⟩ := rank_loop (n := 1000000000000) (s0 := .un) (s1 := .un) ha m0 ((Sz.of 30 (by omega) (by omega)).mono (by decide)) h3 h4 (r - 1) 1 (by omega) (Nat.le_refl _) (by omega)
  have y1 : Y a 1 = 1 := by simp [Y, P]
  have y2 : Y a 2 = 2 * a := by simp [Y, P]; omega
  rw [show (1 : Nat) + 1 = 2 by rfl, y1, y2] at e1
  have m1 : mulOk 2 a = true := mulOk_l (by decide) (by decide)
  have m0' : 0 < m := by omega
  have e : B_rank 1000000000000 [.fz (.int a), .fz (nD m), .un, .un, .un] = .rt (.fz (nD r)) := by
    unfold B_rank
    refine Mp.st_set (.fz (nD 1)) _ (by simp [sizeLine_eq]) (by (first | (simp only [List.set_cons_succ, List.set_cons_zero, Mp.frzL, Mp.keepS, if_true, if_false, Bool.false_eq_true] <;> rfl) | rfl)) ?_
    refine Mp.st_par (.int (1 % (m : Int))) (.int (2 * a % (m : Int))) _ (by simp [sizeLine_eq, m0', m1]) (by (first | (simp only [List.set_cons_succ, List.set_cons_zero, Mp.frzL, Mp.keepS, if_true, if_false, Bool.false_eq_true] <;> rfl) | rfl)) ?_
    refine Mp.st_while _ (e1) ?_
    simp
  exact congrArg outR e
end RL

namespace K33T
/-- one row of the table: what the law asks of the members, h = Y(m) -/
def row (a h m : Int) : Nat → Int → Int → Int → Int → Bool
  | 0, _, _, _, _ => true
  | k + 1, n, y, y1, p => (decide (y % h = 0) == decide (n % m = 0)) && (decide (y % 2 = 0) == decide (n % 2 = 0)) && (decide (y % (h * h) = 0) == decide (n % (m * h) = 0)) && (decide (a ≤ 2) || decide ((y - n) % (a - 1) = 0)) && decide (n ≤ y) && decide (p ≤ y1) &&
      row a h m k (n + 1) y1 (2 * a * y1 - y) (p * (2 * a - 1))
def rowM (a : Int) : Nat → Bool
  | 0 => true
  | m + 1 => row a (PM.Y a (m + 1)) (m + 1 : Nat) 60 0 0 1 1 && rowM a m
def rowA : Nat → Bool
  | 0 => true
  | a + 1 => rowM (a + 2 : Nat) 6 && rowA a
theorem row_all : rowA 8 = true := by decide +kernel
/-- Euclid's steps -/
def euc : Nat → Nat → Nat → Nat
  | 0, x, _ => x
  | k + 1, x, y => if Nat.blt 0 y then euc k y (x % y) else euc k x y
def eucP (a : Nat) : Nat → Nat → Nat → Bool
  | 0, _, _ => true
  | k + 1, x, y => Nat.beq (euc 400 x y) 1 && eucP a k (x * a + (a * a - 1) * y) (x + y * a)
def eucA : Nat → Bool
  | 0 => true
  | a + 1 => eucP (a + 2) 25 1 0 && eucA a
theorem euc_all : eucA 8 = true := by decide +kernel
end K33T

namespace K33
open PySem PySem.Spec PyProof.Rows L2 Mp PM RL K33T
open Mp (D Sem)
/-! pairs of great indexes -/
theorem szXY {a : Int} (h2 : 2 ≤ a) (h5 : 2 * a ≤ 2 ^ 5) (w : Nat) : Sz (5 * w + 1) (X a w) ∧ Sz (5 * w + 1) (Y a w) := by
  have key : ∀ v : Int, 0 ≤ v → v ≤ 2 ^ (5 * w) → Sz (5 * w + 1) v := fun v h0 hk => by
    unfold Sz
    have : v.natAbs ≤ 2 ^ (5 * w) := by
      have h3 : (v.natAbs : Int) = v := by omega
      have h4 : ((2 ^ (5 * w) : Nat) : Int) = 2 ^ (5 * w) := by rw [Int.natCast_pow]; rfl
      omega
    exact Nat.lt_of_le_of_lt this (Nat.pow_lt_pow_right (by decide) (by omega))
  have hb := bnd h2 h5 w
  have hp := pos h2 w
  exact ⟨key _ (by omega) hb.1, key _ (by omega) hb.2⟩
theorem addedG {x y u v a : Int} {p q : Nat} (hx : Sz p x) (hy : Sz p y) (hu : Sz q u) (hv : Sz q v) (ha : Sz 5 a) (hpq : p + q ≤ 134000000) :
    mi_added [tD x y, tD u v, .int a] = .ok (.fz (tD (x * u + (a * a - 1) * y * v) (x * v + y * u))) := by
  have m1 : mulOk x u = true := mulOk_sz hx hu (by omega)
  have m2 : mulOk a a = true := by (exact Mp.mulOk_sz (by (repeat (first | assumption | apply Mp.Sz.mul | apply Mp.Sz.add | apply Mp.Sz.sub | apply Mp.Sz.neg | exact Mp.Sz.lit (by decide)))) (by (repeat (first | assumption | apply Mp.Sz.mul | apply Mp.Sz.add | apply Mp.Sz.sub | apply Mp.Sz.neg | exact Mp.Sz.lit (by decide)))) (by decide))
  have n1 : Sz 65 (a * a - 1) := by
    have := (ha.mul ha).sub (Sz.lit (i := 1) (by decide))
    exact this.mono (by decide)
  have m3 : mulOk (a * a - 1) y = true := mulOk_sz n1 hy (by omega)
  have m4 : mulOk ((a * a - 1) * y) v = true := mulOk_sz (n1.mul hy) hv (by omega)
  have m5 : mulOk x v = true := mulOk_sz hx hv (by omega)
  have m6 : mulOk y u = true := mulOk_sz hy hu (by omega)
  have e : B_added 1000000 [.fz (tD x y), .fz (tD u v), .fz (.int a), .un, .un, .un, .un] = .rt (.fz (tD (x * u + (a * a - 1) * y * v) (x * v + y * u))) := by
    unfold B_added
    refine Mp.st_asg (tD x y) _ (by simp [sizeLine_eq]) (by (first | (simp only [Mp.gTp, Mp.gCn, Mp.gN, Mp.gNl, Mp.R.bind_ok, List.length_cons, List.length_nil, List.set_cons_succ, List.set_cons_zero, Nat.reduceAdd, if_true, ite_true] <;> rfl) | rfl)) ?_
    refine Mp.st_asg (tD u v) _ (by simp [sizeLine_eq]) (by (first | (simp only [Mp.gTp, Mp.gCn, Mp.gN, Mp.gNl, Mp.R.bind_ok, List.length_cons, List.length_nil, List.set_cons_succ, List.set_cons_zero, Nat.reduceAdd, if_true, ite_true] <;> rfl) | rfl)) ?_
    exact Mp.st_ret (.fz (tD (x * u + (a * a - 1) * y * v) (x * v + y * u))) (by simp [sizeLine_eq, m1, m2, m3, m4, m5, m6])
  exact congrArg outR e
theorem pstepG {m : Nat} {s0 : Sl} {a : Int} {v d N : Nat} (h2 : 2 ≤ a) (h5 : 2 * a ≤ 2 ^ 5) (hN2 : N ≤ 26000000) (hd : d ≤ 1) (hN : 2 * v + d ≤ N) :
    L1_pair m [s0, .fz (.int a), .fz (pD a v), .fz (nD d)] = .nx [s0, .fz (.int a), .fz (pD a (2 * v + d)), .fz (nD d)] := by
  have za : Sz 5 a := Sz.of 5 (by omega) (by simp only [Nat.reducePow]; omega)
  obtain ⟨s1, s1'⟩ := szXY h2 h5 v
  obtain ⟨s2, s2'⟩ := szXY h2 h5 (2 * v)
  have e1 := addedG s1 s1' s1 s1' za (by omega)
  have hadd := PM.add a v v
  rw [← hadd.1, ← hadd.2, show v + v = 2 * v by omega] at e1
  have e2 := addedG s2 s2' (za.mono (b := 64) (by decide)) (Sz.lit (i := 1) (by decide)) za (by omega)
  have q1 : X a (2 * v) * a + (a * a - 1) * Y a (2 * v) * 1 = X a (2 * v + 1) := by rw [X_succ, Int.mul_one]
  have q2 : X a (2 * v) * 1 + Y a (2 * v) * a = Y a (2 * v + 1) := by rw [Y_succ, Int.mul_one]
  rw [q1, q2] at e2
  unfold pD
  clear hadd q1 q2 s1 s1' s2 s2'
  generalize X a v = x0 at *
  generalize Y a v = y0 at *
  unfold L1_pair
  have c : d = 0 ∨ d = 1 := by omega
  rcases c with rfl | rfl
  · rw [Nat.add_zero]
    generalize X a (2 * v) = x1 at *
    generalize Y a (2 * v) = y1 at *
    refine Mp.st_set (.fz (tD x1 y1)) _ (by simp [sizeLine_eq, e1]) (by (first | (simp only [List.set_cons_succ, List.set_cons_zero, Mp.frzL, Mp.keepS, if_true, if_false, Bool.false_eq_true] <;> rfl) | rfl)) ?_
    simp
  · generalize X a (2 * v + 1) = x2 at *
    generalize Y a (2 * v + 1) = y2 at *
    generalize X a (2 * v) = x1 at *
    generalize Y a (2 * v) = y1 at *
    refine Mp.st_set (.fz (tD x1 y1)) _ (by simp [sizeLine_eq, e1]) (by (first | (simp only [List.set_cons_succ, List.set_cons_zero, Mp.frzL, Mp.keepS, if_true, if_false, Bool.false_eq_true] <;> rfl) | rfl)) ?_
    simp [e2, sizeLine_eq]
theorem ploopG {m : Nat} {s0 : Sl} {a : Int} {N : Nat} (h2 : 2 ≤ a) (h5 : 2 * a ≤ 2 ^ 5) (hN2 : N ≤ 26000000) : ∀ (l : List Nat) (v : Nat) (x : Sl), (∀ d ∈ l, d ≤ 1) → vf v l ≤ N →
    ∃ x', sLoop (gN 3) L1_pair m (l.map nD) [s0, .fz (.int a), .fz (pD a v), x] = .nx [s0, .fz (.int a), .fz (pD a (vf v l)), x']
  | [], v, x, _, _ => ⟨x, rfl⟩
  | d :: l, v, x, hd, hN => by
    have hge := vf_ge l (2 * v + d)
    have hN' : vf (2 * v + d) l ≤ N := hN
    obtain ⟨x', e⟩ := ploopG (m := m) (s0 := s0) h2 h5 hN2 l (2 * v + d) (.fz (nD d)) (fun y hy => hd y (List.mem_cons_of_mem _ hy)) hN'
    refine ⟨x', ?_⟩
    have hp := pstepG (m := m) (s0 := s0) h2 h5 hN2 (hd d List.mem_cons_self) (show 2 * v + d ≤ N by omega)
    rw [List.map_cons]
    show oLoop (L1_pair m [s0, .fz (.int a), .fz (pD a v), .fz (nD d)]) _ = _
    rw [hp]
    exact e
theorem pairG {a : Int} {n : Nat} (h2 : 2 ≤ a) (h5 : 2 * a ≤ 2 ^ 5) (hn : n ≤ 26000000) : mi_pair [nD n, .int a] = .ok (.fz (pD a n)) := by
  have hn2 : n < 2 ^ 30 := by omega
  have hv := vf_bits 30 n hn2
  obtain ⟨x, eρ⟩ := ploopG (m := 1000000) (s0 := .fz (nD n)) h2 h5 hn (bits 30 n).reverse 0 .un (fun d h => bits_le 30 n d (List.mem_reverse.mp h)) (by omega)
  rw [hv] at eρ
  have hd := digits_ok 30 n hn2 (by decide)
  have e : B_pair 1000000 [.fz (nD n), .fz (.int a), .un, .un] = .rt (.fz (pD a n)) := by
    unfold B_pair
    refine Mp.st_set (.fz (tD 1 0)) _ (by simp [sizeLine_eq]) (by (first | (simp only [List.set_cons_succ, List.set_cons_zero, Mp.frzL, Mp.keepS, if_true, if_false, Bool.false_eq_true] <;> rfl) | rfl)) ?_
    refine st_for ((bits 30 n).reverse.map nD) _ (by simp [hd, List.map_reverse]) eρ ?_
    simp
  exact congrArg outR e
/-! the law's helpers -/
theorem divides_ok {s g : Int} (hs : 0 < s) : mi__law_divides [.int s, .int g] = .ok (.fz (.bl (decide (g % s = 0)))) := by
  have h0 : ¬ s = 0 := by omega
  have e : B__law_divides 1000000 [.fz (.int s), .fz (.int g)] = .rt (.fz (.bl (decide (g % s = 0)))) := by
    unfold B__law_divides
    refine Mp.st_if0 (by simp [sizeLine_eq, h0]) ?_
    exact Mp.st_ret (.fz (.bl (decide (g % s = 0)))) (by simp [sizeLine_eq, hs])
  exact congrArg outR e
theorem common_loop {n : Nat} : ∀ (ds : List D) (x y : Nat) (s2 : Sl), x < 2 ^ 200 → y < 2 ^ 200 → ∃ y' s2', sLoop (gN 2) L1__law_common n ds [.fz (nD x), .fz (nD y), s2] = .nx [.fz (nD (euc ds.length x y)), .fz (nD y'), s2']
  | [], x, y, s2, _, _ => ⟨y, s2, rfl⟩
  | d :: ds, x, y, s2, hx, hy => by
    by_cases h : 0 < y
    · have hlt := Nat.mod_lt x h
      obtain ⟨y', s2', e⟩ := common_loop (n := n) ds y (x % y) (.fz d) hy (by omega)
      refine ⟨y', s2', ?_⟩
      show oLoop (L1__law_common n [.fz (nD x), .fz (nD y), .fz d]) _ = _
      have e1 : L1__law_common n [.fz (nD x), .fz (nD y), .fz d] = .nx [.fz (nD y), .fz (nD (x % y)), .fz d] := by
        have h' : (0 : Int) < (y : Int) := by omega
        have d1 : divOk (x : Int) (y : Int) = true := divOk_mid h' (Nat.lt_of_lt_of_le (PySem.Flt.log2_lt_of (by decide) (show (y : Int).natAbs < 2 ^ 200 by omega)) (by decide))
        have e0 : (x : Int) - (x : Int) / y * y = (x : Int) % y := by rw [Int.mul_comm, Int.emod_def]
        generalize hw : x % y = w at *
        have e3 : (x : Int) % y = (w : Int) := by omega
        have hq2 : 0 ≤ (x : Int) / y ∧ (x : Int) / y ≤ x := ⟨Int.ediv_nonneg (by omega) (by omega), Int.ediv_le_self _ (by omega)⟩
        generalize hq : (x : Int) / y = q at *
        have zq : Sz 200 q := by unfold Sz; omega
        have zy : Sz 200 (y : Int) := by unfold Sz; omega
        have m1 : mulOk q (y : Int) = true := by (exact Mp.mulOk_sz (by (repeat (first | assumption | apply Mp.Sz.mul | apply Mp.Sz.add | apply Mp.Sz.sub | apply Mp.Sz.neg | exact Mp.Sz.lit (by decide)))) (by (repeat (first | assumption | apply Mp.Sz.mul | apply Mp.Sz.add | apply Mp.Sz.sub | apply Mp.Sz.neg | exact Mp.Sz.lit (by decide)))) (by decide))
        unfold L1__law_common
        simp [h, d1, m1, e0, e3, hq]
      rw [e1, oLoop_nx, e]
      simp [euc, h]
    · obtain ⟨y', s2', e⟩ := common_loop (n := n) ds x y (.fz d) hx hy
      refine ⟨y', s2', ?_⟩
      show oLoop (L1__law_common n [.fz (nD x), .fz (nD y), .fz d]) _ = _
      have e1 : L1__law_common n [.fz (nD x), .fz (nD y), .fz d] = .nx [.fz (nD x), .fz (nD y), .fz d] := by
        unfold L1__law_common
        simp [h]
      rw [e1, oLoop_nx, e]
      simp [euc, h]
theorem common_ok {x y : Nat} (hx : x < 2 ^ 200) (hy : y < 2 ^ 200) : mi__law_common [nD x, nD y] = .ok (.fz (nD (euc 400 x y))) := by
  have r4 : rngOk 400 = true := rngOk_small (by decide) (by decide)
  obtain ⟨y', s2', e1⟩ := common_loop (n := 1000000) (rngL 0 400) x y .un hx hy
  have elen : (rngL 0 400).length = 400 := by rw [rngL_len]; rfl
  rw [elen] at e1
  have e : B__law_common 1000000 [.fz (nD x), .fz (nD y), .un] = .rt (.fz (nD (euc 400 x y))) := by
    unfold B__law_common
    refine Mp.st_for (rngL 0 400) _ (by simp [sizeLine_eq, r4]) (e1) ?_
    simp
  exact congrArg outR e
/-- one entry of the table -/
structure Row (a m : Int) (n : Nat) : Prop where
  r1 : decide (Y a n % Y a m.toNat = 0) = decide ((n : Int) % m = 0)
  r2 : decide (Y a n % 2 = 0) = decide ((n : Int) % 2 = 0)
  r3 : decide (Y a n % (Y a m.toNat * Y a m.toNat) = 0) = decide ((n : Int) % (m * Y a m.toNat) = 0)
  r4 : a ≤ 2 ∨ (Y a n - n) % (a - 1) = 0
  r5 : (n : Int) ≤ Y a n
  r6 : (2 * a - 1) ^ n ≤ Y a (n + 1)
theorem row_spec {a : Int} {m : Nat} : ∀ (k n : Nat), row a (Y a m) m k n (Y a n) (Y a (n + 1)) ((2 * a - 1) ^ n) = true → ∀ l, l < k → Row a m (n + l)
  | 0, n, _, l, hl => absurd hl (Nat.not_lt_zero _)
  | k + 1, n, h, l, hl => by
    unfold row at h
    simp only [Bool.and_eq_true] at h
    obtain ⟨⟨⟨⟨⟨⟨h1, h2⟩, h3⟩, h4⟩, h5⟩, h6⟩, h7⟩ := h
    cases l with
    | zero =>
      refine ⟨eq_of_beq h1, eq_of_beq h2, eq_of_beq h3, ?_, of_decide_eq_true h5, of_decide_eq_true h6⟩
      rw [Bool.or_eq_true] at h4
      exact h4.imp of_decide_eq_true of_decide_eq_true
    | succ l =>
      rw [← Int.pow_succ, ← Y_rec] at h7
      have := row_spec k (n + 1) h7 l (by omega)
      rw [show n + (l + 1) = n + 1 + l by omega]
      exact this
theorem rowM_spec {a : Int} : ∀ M, rowM a M = true → ∀ m, m < M → row a (Y a (m + 1)) (m + 1 : Nat) 60 0 0 1 1 = true
  | 0, _, i, hi => absurd hi (Nat.not_lt_zero _)
  | M + 1, h, i, hi => by
    unfold rowM at h
    rw [Bool.and_eq_true] at h
    by_cases e : i = M
    · subst e; exact h.1
    · exact rowM_spec M h.2 i (by omega)
theorem rowA_spec : ∀ M, rowA M = true → ∀ a, a < M → rowM (a + 2 : Nat) 6 = true
  | 0, _, i, hi => absurd hi (Nat.not_lt_zero _)
  | M + 1, h, i, hi => by
    unfold rowA at h
    rw [Bool.and_eq_true] at h
    by_cases e : i = M
    · subst e; exact h.1
    · exact rowA_spec M h.2 i (by omega)
theorem rows {a m n : Nat} (ha : 2 ≤ a) (ha2 : a ≤ 9) (hm : 1 ≤ m) (hm2 : m ≤ 6) (hn : n < 60) : Row a m n := by
  obtain ⟨a, rfl⟩ : ∃ k, a = k + 2 := ⟨a - 2, by omega⟩
  obtain ⟨m, rfl⟩ : ∃ k, m = k + 1 := ⟨m - 1, by omega⟩
  have h := rowM_spec _ (rowA_spec _ row_all a (by omega)) m (by omega)
  have := row_spec (a := ((a + 2 : Nat) : Int)) (m := m + 1) 60 0 (by
    rw [show Y ((a + 2 : Nat) : Int) 0 = 0 by simp [Y, P], show Y ((a + 2 : Nat) : Int) (0 + 1) = 1 by simp [Y, P], Int.pow_zero]
    exact h) n hn
  rw [Nat.zero_add] at this
  exact this
theorem euc_spec {a : Nat} (ha : 2 ≤ a) : ∀ (k n x y : Nat), (x : Int) = X a n → (y : Int) = Y a n → eucP a k x y = true → ∀ l, l < k → ∃ x y : Nat, (x : Int) = X a (n + l) ∧ (y : Int) = Y a (n + l) ∧ euc 400 x y = 1
  | 0, _, _, _, _, _, _, l, hl => absurd hl (Nat.not_lt_zero _)
  | k + 1, n, x, y, hx, hy, h, l, hl => by
    unfold eucP at h
    rw [Bool.and_eq_true] at h
    cases l with
    | zero => exact ⟨x, y, hx, hy, Nat.eq_of_beq_eq_true h.1⟩
    | succ l =>
      rw [show n + (l + 1) = n + 1 + l by omega]
      have e0 : ((a * a - 1 : Nat) : Int) = (a : Int) * a - 1 := by
        have : 4 ≤ a * a := Nat.mul_le_mul ha ha
        rw [Int.ofNat_sub (by omega)]; simp
      refine euc_spec ha k (n + 1) _ _ ?_ ?_ h.2 l (by omega)
      · rw [X_succ, ← hx, ← hy, ← e0]; simp
      · rw [Y_succ, ← hx, ← hy]; simp
theorem eucA_spec : ∀ M, eucA M = true → ∀ a, a < M → eucP (a + 2) 25 1 0 = true
  | 0, _, i, hi => absurd hi (Nat.not_lt_zero _)
  | M + 1, h, i, hi => by
    unfold eucA at h
    rw [Bool.and_eq_true] at h
    by_cases e : i = M
    · subst e; exact h.1
    · exact eucA_spec M h.2 i (by omega)
theorem coprime {a n : Nat} (ha : 2 ≤ a) (ha2 : a ≤ 9) (hn : n < 25) : ∃ x y : Nat, (x : Int) = X a n ∧ (y : Int) = Y a n ∧ euc 400 x y = 1 := by
  obtain ⟨a, rfl⟩ : ∃ k, a = k + 2 := ⟨a - 2, by omega⟩
  have := euc_spec (a := a + 2) (by omega) 25 0 1 0 (by simp [X, P]) (by simp [Y, P]) (eucA_spec _ euc_all a (by omega)) n hn
  rw [Nat.zero_add] at this
  exact this
theorem step1 {a k r j m : Nat} {s0 s1 s7 s8 s9 s10 s11 s12 s13 : Sl} (hj : j < 150) (hk : 1 ≤ k) (hr : 1 ≤ r) (h : (k : Int) ∣ Y a j ↔ j % r = 0) :
    L1_law m [s0, s1, .fz (nD a), .fz (nD k), .fz (.lst (pL a 150)), .fz (nD r), .fz (nD j), s7, s8, s9, s10, s11, s12, s13] = .nx [s0, s1, .fz (nD a), .fz (nD k), .fz (.lst (pL a 150)), .fz (nD r), .fz (nD j), s7, s8, s9, s10, s11, s12, s13] := by
  have k0 : (0 : Int) < k := by omega
  have r0 : 0 < r := by omega
  have g1 : atI (pL (a : Int) 150) (j : Int) = some (pD a j) := atI_nat (pL_get (by omega))
  have i1 : ∀ x y : Int, atI [D.int x, D.int y] 1 = some (.int y) := fun x y => atI_nat (j := 1) rfl
  have q := divides_ok (s := (k : Int)) (g := Y a j) k0
  have e : decide (Y (a : Int) j % (k : Int) = 0) = decide ((j : Int) % (r : Int) = 0) := by
    have h1 : (Y (a : Int) j % (k : Int) = 0) ↔ ((j : Int) % (r : Int) = 0) := by
      rw [← Int.dvd_iff_emod_eq_zero, h]
      omega
    exact decide_eq_decide.mpr h1
  rw [e] at q
  unfold pD at g1
  generalize Y (a : Int) j = y at *
  generalize X (a : Int) j = x at *
  generalize pL (a : Int) 150 = L at *
  unfold L1_law
  refine ifT_no ?_
  simp [g1, i1, q, r0]
theorem step2 {a mm j n : Nat} {s0 s1 s3 s5 s10 s11 s12 s13 : Sl} (ha : 2 ≤ a) (ha2 : a ≤ 9) (hm : 1 ≤ mm) (hm2 : mm ≤ 6) (hj : j < 60) :
    ∃ s11' s12', L2_law n [s0, s1, .fz (nD a), s3, .fz (.lst (pL a 150)), s5, .fz (nD j), .fz (.int (Y a mm)), .fz (.int ((2 * a - 1) ^ j)), .fz (nD mm), s10, s11, s12, s13] =
      .nx [s0, s1, .fz (nD a), s3, .fz (.lst (pL a 150)), s5, .fz (nD j), .fz (.int (Y a mm)), .fz (.int ((2 * a - 1) ^ (j + 1))), .fz (nD mm), s10, s11', s12', s13] := by
  obtain ⟨r1, r2, r3, r4, r5, r6⟩ := rows ha ha2 hm hm2 hj
  rw [Int.toNat_natCast] at r1 r3
  have h2 : 2 ≤ (a : Int) := by omega
  have hh : 0 < Y (a : Int) mm := by have := Y_ge h2 mm; omega
  have g1 : atI (pL (a : Int) 150) (j : Int) = some (pD a j) := atI_nat (pL_get (by omega))
  have g2 : atI (pL (a : Int) 150) ((j : Int) + 1) = some (pD a (j + 1)) := atI_nat (j := j + 1) (pL_get (by omega))
  have i1 : ∀ x y : Int, atI [D.int x, D.int y] 1 = some (.int y) := fun x y => atI_nat (j := 1) rfl
  have zh : Sz 40 (Y (a : Int) mm) := by
    have := (szXY h2 (by omega) mm).2
    exact this.mono (by omega)
  have zy : Sz 400 (Y (a : Int) j) := ((szXY h2 (by omega) j).2).mono (by omega)
  rw [Int.pow_succ]
  have zp : Sz 400 ((2 * (a : Int) - 1) ^ j) := by
    have z1 : Sz 400 (Y (a : Int) (j + 1)) := ((szXY h2 (by omega) (j + 1)).2).mono (by omega)
    have : 0 ≤ (2 * (a : Int) - 1) ^ j := Int.pow_nonneg (by omega)
    unfold Sz at *
    omega
  have q1 := divides_ok (s := Y (a : Int) mm) (g := Y (a : Int) j) hh
  rw [r1] at q1
  have hh2 : 0 < Y (a : Int) mm * Y (a : Int) mm := Int.mul_pos hh hh
  have q2 := divides_ok (s := Y (a : Int) mm * Y (a : Int) mm) (g := Y (a : Int) j) hh2
  rw [r3] at q2
  have hh3 : 0 < (mm : Int) * Y (a : Int) mm := Int.mul_pos (by omega) hh
  have q3 := divides_ok (s := (mm : Int) * Y (a : Int) mm) (g := (j : Int)) hh3
  unfold pD at g1 g2
  generalize Y (a : Int) mm = h at *
  generalize Y (a : Int) j = y at *
  generalize X (a : Int) j = x at *
  generalize Y (a : Int) (j + 1) = y1 at *
  generalize X (a : Int) (j + 1) = x1 at *
  generalize (2 * (a : Int) - 1) ^ j = p at *
  generalize pL (a : Int) 150 = L at *
  have m1 : mulOk h h = true := by (exact Mp.mulOk_sz (by (repeat (first | assumption | apply Mp.Sz.mul | apply Mp.Sz.add | apply Mp.Sz.sub | apply Mp.Sz.neg | exact Mp.Sz.lit (by decide)))) (by (repeat (first | assumption | apply Mp.Sz.mul | apply Mp.Sz.add | apply Mp.Sz.sub | apply Mp.Sz.neg | exact Mp.Sz.lit (by decide)))) (by decide))
  have m2 : mulOk (mm : Int) h = true := mulOk_l (by omega) (by omega)
  have m3 : mulOk 2 (a : Int) = true := mulOk_l (by decide) (by decide)
  have m4 : mulOk p (2 * (a : Int) - 1) = true := mulOk_r (by omega) (by omega)
  have mm0 : 0 < mm := by omega
  refine ⟨.fz (.int x), .fz (.int y), ?_⟩
  unfold L2_law
  refine Mp.st_asg (tD x y) _ (by simp [sizeLine_eq, g1]) (by (first | (simp only [Mp.gTp, Mp.gCn, Mp.gN, Mp.gNl, Mp.R.bind_ok, List.length_cons, List.length_nil, List.set_cons_succ, List.set_cons_zero, Nat.reduceAdd, if_true, ite_true] <;> rfl) | rfl)) ?_
  refine Mp.st_if0 (by simp [sizeLine_eq, q1, mm0, r2]) ?_
  refine Mp.st_if0 (by simp [sizeLine_eq, q2, q3, m1, m2]) ?_
  have e5 : ¬ y < (j : Int) := by omega
  have e6 : ¬ y1 < p := by omega
  by_cases c : 2 < a
  · have c' : (2 : Int) < (a : Int) := by omega
    have r4' : (y - (j : Int)) % ((a : Int) - 1) = 0 := by rcases r4 with z | z; omega; exact z
    have c2 : (1 : Int) < (a : Int) := by omega
    have c3 : 1 < a := by omega
    refine Mp.st_if0 (by simp [sizeLine_eq, c, c', c2, c3, r4', e5, e6, g2, i1]) ?_
    simp [m3, m4]
  · have c' : ¬ (2 : Int) < (a : Int) := by omega
    refine Mp.st_if0 (by simp [sizeLine_eq, c, c', e5, e6, g2, i1]) ?_
    simp [m3, m4]
theorem law_true (ns : List Int) (hn : ns.length ≤ 63) (hb : ∀ z ∈ ns, Builtin.Int.intBits z ≤ 1048576) : mi_law [.sq ns] = .ok (.fz (.bl true)) := by
  obtain ⟨v0, c0⟩ := cell0 ns 0 (by decide)
  have c0' : mi__law_cell [.sq ns, .int 0] = .ok (.fz (.int v0)) := c0
  obtain ⟨N, eN⟩ : ∃ N : Nat, v0 % 900000 = (N : Int) := ⟨(v0 % 900000).toNat, by omega⟩
  obtain ⟨a, ea, ha, ha2⟩ : ∃ a : Nat, (2 : Int) + (N : Int) % 8 = (a : Int) ∧ 2 ≤ a ∧ a ≤ 9 := ⟨2 + N % 8, by omega, by omega, by omega⟩
  obtain ⟨m, em, hm1, hm2⟩ : ∃ n : Nat, (1 : Int) + (N : Int) / 8 % 6 = (n : Int) ∧ 1 ≤ n ∧ n ≤ 6 := ⟨1 + N / 8 % 6, by omega, by omega, by omega⟩
  obtain ⟨n, en, hn2⟩ : ∃ n : Nat, (N : Int) / 48 % 25 = (n : Int) ∧ n < 25 := ⟨N / 48 % 25, by omega, by omega⟩
  obtain ⟨k, ek, hk1, hk2⟩ : ∃ n : Nat, (1 : Int) + (N : Int) / 1200 % 60 = (n : Int) ∧ 1 ≤ n ∧ n ≤ 60 := ⟨1 + N / 1200 % 60, by omega, by omega, by omega⟩
  obtain ⟨k', ek', hk1', hk2'⟩ : ∃ n : Nat, (1 : Int) + (N : Int) % 5000 = (n : Int) ∧ 1 ≤ n ∧ n ≤ 5000 := ⟨1 + N % 5000, by omega, by omega, by omega⟩
  have d1 : divOk (N : Int) 8 = true := divOk_small (by decide) (by decide)
  have d2 : divOk (N : Int) 48 = true := divOk_small (by decide) (by decide)
  have d3 : divOk (N : Int) 1200 = true := divOk_small (by decide) (by decide)
  have d4 : divOk (N : Int) 72000 = true := divOk_small (by decide) (by decide)
  have h2 : 2 ≤ (a : Int) := by omega
  have h5 : 2 * (a : Int) ≤ 2 ^ 5 := by omega
  have sa := sm_all (a := (a : Int)) h2 (by omega) (n := 190) (by decide)
  have za : Sz 2000 (a : Int) := (Sz.of 10 (by omega) (by omega)).mono (by decide)
  have q1 : mi__law_pairs [.int (a : Int), .int 150] = .ok (.ow (.lst (pL a 150))) := pairs_ok (n := 150) (by decide) h2 sa.1 (fun w hw => sa.2 w (by omega))
  obtain ⟨r, hr1, hr2, hr3, hr4, er⟩ := rank_ok za hk1 (by omega)
  obtain ⟨r', hr1', hr2', hr3', hr4', er'⟩ := rank_ok za hk1' (by omega)
  have hr5 : r ≤ 25000000 := Nat.le_trans hr2 (Nat.mul_le_mul (show k ≤ 5000 by omega) (show k ≤ 5000 by omega))
  have hr5' : r' ≤ 25000000 := Nat.le_trans hr2' (Nat.mul_le_mul hk2' hk2')
  have q2 := pairG h2 h5 (show r' ≤ 26000000 by omega)
  have i0 : ∀ x y : Int, atI [D.int x, D.int y] 0 = some (.int x) := fun x y => atI_nat (j := 0) rfl
  have i1 : ∀ x y : Int, atI [D.int x, D.int y] 1 = some (.int y) := fun x y => atI_nat (j := 1) rfl
  have g1 : atI (pL (a : Int) 150) 1 = some (pD a 1) := atI_nat (j := 1) (pL_get (by decide))
  have gn : atI (pL (a : Int) 150) (n : Int) = some (pD a n) := atI_nat (pL_get (by omega))
  have k0 : (0 : Int) < k := by omega
  have k0' : (0 : Int) < k' := by omega
  have q3 := divides_ok (s := (k' : Int)) (g := Y a r') k0'
  rw [Int.emod_eq_zero_of_dvd hr3'] at q3
  have t1 : ¬ (r : Int) < 1 := by omega
  have t1' : ¬ r < 1 := by omega
  have t2 : (1 : Int) ≤ (r' : Int) := by omega
  -- none of the earlier members is divided
  obtain ⟨g, hg, hg1, hg2, hg3⟩ : ∃ g : Nat, (if (150 : Int) < (r' : Int) then (150 : Int) else (r' : Int)) = (g : Int) ∧ 1 ≤ g ∧ g ≤ r' ∧ g ≤ 150 := ⟨min r' 150, by split <;> omega, by omega, by omega, by omega⟩
  have hcut : cutG (pL (a : Int) 150) (some 1) (some (g : Int)) = ((pL (a : Int) 150).take g).drop 1 := cutG_mid (i := 1) hg1 (by rw [pL_len]; omega)
  have hlen : (((pL (a : Int) 150).take g).drop 1).length ≤ 150 := by rw [List.length_drop, List.length_take, pL_len]; omega
  have hnone : lcL (gN 13) yesT M1_law (wipeR [.fz (.sq ns), .fz (nD N), .fz (nD a), .fz (nD k'), .fz (.lst (pL a 150)), .fz (nD r'), .fz (.int 1), .fz (.int (Y a 1)), .un, .fz (nD m), .fz (nD n), .un, .un, .un] [13]) (((pL (a : Int) 150).take g).drop 1) = .ok ((((pL (a : Int) 150).take g).drop 1).map fun _ => .bl false) := by
    refine lcL_map _ _ fun d hd => ?_
    obtain ⟨t, he⟩ := List.mem_iff_getElem?.mp hd
    rw [List.getElem?_drop, List.getElem?_take] at he
    split at he
    · next hlt =>
      rw [pL_get (by omega)] at he
      cases he
      refine ⟨_, rfl, ?_⟩
      have hnd := hr4' (1 + t) (by omega) (by omega)
      have qd := divides_ok (s := (k' : Int)) (g := Y a (1 + t)) k0'
      have e0 : decide (Y (a : Int) (1 + t) % (k' : Int) = 0) = false := decide_eq_false fun z => hnd (Int.dvd_of_emod_eq_zero z)
      rw [e0] at qd
      generalize pL (a : Int) 150 = L at *
      unfold pD
      generalize Y (a : Int) (1 + t) = y at *
      generalize X (a : Int) (1 + t) = x at *
      unfold M1_law
      simp [wipeR, i1, qd]
    · cases he
  have hany : asBls ((((pL (a : Int) 150).take g).drop 1).map fun _ => .bl false) = some ((((pL (a : Int) 150).take g).drop 1).map fun _ => false) := asBls_map (fun _ => false) _
  have hany2 : ((((pL (a : Int) 150).take g).drop 1).map fun _ => false).any id = false := by
    rw [List.any_eq_false]
    intro x hx
    obtain ⟨_, _, rfl⟩ := List.mem_map.mp hx
    decide
  -- the loop over the places
  obtain ⟨ρ1, e1, s6, rfl⟩ := sLoop_P (g := gN 6) (b := L1_law) (n := 1000000) (fun j ρ => ∃ s6, ρ = [.fz (.sq ns), .fz (nD N), .fz (nD a), .fz (nD k), .fz (.lst (pL a 150)), .fz (nD r), s6, .fz (.int (Y a 1)), .un, .fz (nD m), .fz (nD n), .un, .un, .un])
    (ds := rngL 1 150) ⟨.fz (.int 1), rfl⟩ fun j d' ρ hj h => by
    obtain ⟨rfl, hj2⟩ := rngL_get hj
    obtain ⟨s6, rfl⟩ := h
    simp only [gN, RP_ok, List.set_cons_succ, List.set_cons_zero]
    have e := step1 (a := a) (k := k) (r := r) (j := j + 1) (m := 1000000) (s0 := .fz (.sq ns)) (s1 := .fz (nD N)) (s7 := .fz (.int (Y a 1))) (s8 := .un) (s9 := .fz (nD m)) (s10 := .fz (nD n)) (s11 := .un) (s12 := .un) (s13 := .un) (by omega) hk1 hr1 (rank_iff hr1 hr3 hr4 (j + 1))
    rw [show (1 : Int) + (j : Nat) = ((j + 1 : Nat) : Int) by omega, e, NxP_nx]
    exact ⟨_, rfl⟩
  obtain ⟨ρ2, e2, t6, s11, s12, rfl⟩ := sLoop_P (g := gN 6) (b := L2_law) (n := 1000000) (fun j ρ => ∃ s6 s11 s12, ρ = [.fz (.sq ns), .fz (nD N), .fz (nD a), .fz (nD k), .fz (.lst (pL a 150)), .fz (nD r), s6, .fz (.int (Y a m)), .fz (.int ((2 * a - 1) ^ j)), .fz (nD m), .fz (nD n), s11, s12, .un])
    (ds := rngL 0 60) (ρ := [.fz (.sq ns), .fz (nD N), .fz (nD a), .fz (nD k), .fz (.lst (pL a 150)), .fz (nD r), s6, .fz (.int (Y a m)), .fz (.int 1), .fz (nD m), .fz (nD n), .un, .un, .un]) ⟨s6, .un, .un, by rw [Int.pow_zero]⟩ fun j d' ρ hj h => by
    obtain ⟨rfl, hj2⟩ := rngL_get hj
    obtain ⟨s6, s11, s12, rfl⟩ := h
    simp only [gN, RP_ok, List.set_cons_succ, List.set_cons_zero]
    obtain ⟨t, u, e⟩ := step2 (a := a) (mm := m) (j := j) (n := 1000000) (s0 := .fz (.sq ns)) (s1 := .fz (nD N)) (s3 := .fz (nD k)) (s5 := .fz (nD r)) (s10 := .fz (nD n)) (s11 := s11) (s12 := s12) (s13 := .un) ha ha2 hm1 hm2 (by omega)
    rw [Int.zero_add, e, NxP_nx]
    exact ⟨_, _, _, rfl⟩
  have r150 : rngOk 150 = true := rngOk_small (by decide) (by decide)
  have r1' : rngOk 1 = true := rngOk_small (by decide) (by decide)
  have r60 : rngOk 60 = true := rngOk_small (by decide) (by decide)
  have qm := pairG (n := m) h2 h5 (by omega)
  have qn := pairG (n := n) h2 h5 (by omega)
  obtain ⟨x, y, hx, hy, hxy⟩ := coprime ha ha2 hn2
  have zxy := szXY h2 h5 n
  rw [← hx, ← hy] at zxy
  have big : ∀ z : Nat, Sz (5 * n + 1) (z : Int) → z < 2 ^ 200 := fun z hz => Nat.lt_of_lt_of_le (show z < 2 ^ (5 * n + 1) by unfold Sz at hz; simpa using hz) (Nat.pow_le_pow_right (by decide) (by omega))
  have qc := common_ok (big x zxy.1) (big y zxy.2)
  rw [hxy] at qc
  unfold pD at gn qn qm q2 g1
  rw [← hx, ← hy] at gn qn
  have t3 := eqR_tup2 x y x y
  have e : B_law 1000000 [.fz (.sq ns), .un, .un, .un, .un, .un, .un, .un, .un, .un, .un, .un, .un, .un] = .rt (.fz (.bl true)) := by
    unfold B_law
    refine Mp.st_set (.fz (nD N)) _ (by simp [sizeLine_eq, c0', eN]) (by (first | (simp only [List.set_cons_succ, List.set_cons_zero, Mp.frzL, Mp.keepS, if_true, if_false, Bool.false_eq_true] <;> rfl) | rfl)) ?_
    refine Mp.st_set (.fz (nD a)) _ (by simp [sizeLine_eq, ea]) (by (first | (simp only [List.set_cons_succ, List.set_cons_zero, Mp.frzL, Mp.keepS, if_true, if_false, Bool.false_eq_true] <;> rfl) | rfl)) ?_
    refine Mp.st_par (nD m) (nD n) _ (by simp [sizeLine_eq, em, en, d1, d2]) (by (first | (simp only [List.set_cons_succ, List.set_cons_zero, Mp.frzL, Mp.keepS, if_true, if_false, Bool.false_eq_true] <;> rfl) | rfl)) ?_
    refine Mp.st_set (.fz (nD k)) _ (by simp [sizeLine_eq, d3, ek]) (by (first | (simp only [List.set_cons_succ, List.set_cons_zero, Mp.frzL, Mp.keepS, if_true, if_false, Bool.false_eq_true] <;> rfl) | rfl)) ?_
    generalize pL (a : Int) 150 = L at *
    generalize Y (a : Int) 1 = y1 at *
    generalize X (a : Int) 1 = x1 at *
    refine Mp.st_set (.ow (.lst L)) _ (by simp [sizeLine_eq, q1]) (by (first | (simp only [List.set_cons_succ, List.set_cons_zero, Mp.frzL, Mp.keepS, if_true, if_false, Bool.false_eq_true] <;> rfl) | rfl)) ?_
    refine Mp.st_par (.int y1) (.int 1) _ (by simp [sizeLine_eq, g1, i1]) (by (first | (simp only [List.set_cons_succ, List.set_cons_zero, Mp.frzL, Mp.keepS, if_true, if_false, Bool.false_eq_true] <;> rfl) | rfl)) ?_
    refine Mp.st_set (.fz (nD r)) _ (by simp [sizeLine_eq, er]) (by (first | (simp only [List.set_cons_succ, List.set_cons_zero, Mp.frzL, Mp.keepS, if_true, if_false, Bool.false_eq_true] <;> rfl) | rfl)) ?_
    refine Mp.st_if0 (by simp [sizeLine_eq, isint_ok, t1, t1']) ?_
    by_cases c : N / 72000 % 10 = 1
    · have c' : (N : Int) / 72000 % 10 = 1 := by omega
      refine Mp.st_ifT (by simp [sizeLine_eq, d4, c']) ?_
      generalize X (a : Int) r' = x2 at *
      generalize Y (a : Int) r' = y2 at *
      refine (show ∀ o o' : Out, o = o' → o' = .rt (.fz (.bl true)) → oSeq o _ = .rt (.fz (.bl true)) from fun o o' h1 h2 => by rw [h1, h2]; rfl) _ _ ?_ rfl
      refine Mp.st_set (.fz (nD k')) _ (by simp [sizeLine_eq, ek']) (by (first | (simp only [List.set_cons_succ, List.set_cons_zero, Mp.frzL, Mp.keepS, if_true, if_false, Bool.false_eq_true] <;> rfl) | rfl)) ?_
      refine Mp.st_set (.fz (nD r')) _ (by simp [sizeLine_eq, er']) (by (first | (simp only [List.set_cons_succ, List.set_cons_zero, Mp.frzL, Mp.keepS, if_true, if_false, Bool.false_eq_true] <;> rfl) | rfl)) ?_
      have hlen' := hlen
      have hsz : ((L.take g).drop 1).length ≤ sizeLine := by rw [sizeLine_eq]; omega
      have hlc : lcF (seqV (toV (cutF (rdV 4) (oSo (cV (.int 1))) (oSo (opL min2D (consA (rdV 5) (consA (cV (.int 150)) (nilA)))))))) (gN 13) yesT M1_law [13] [.fz (.sq ns), .fz (nD N), .fz (nD a), .fz (nD k'), .fz (.lst L), .fz (nD r'), .fz (.int 1), .fz (.int y1), .un, .fz (nD m), .fz (nD n), .un, .un, .un] = .ok (.ow (.lst (((L.take g).drop 1).map fun _ => .bl false))) := by
        have h1 : seqV (toV (cutF (rdV 4) (oSo (cV (.int 1))) (oSo (opL min2D (consA (rdV 5) (consA (cV (.int 150)) (nilA))))))) [.fz (.sq ns), .fz (nD N), .fz (nD a), .fz (nD k'), .fz (.lst L), .fz (nD r'), .fz (.int 1), .fz (.int y1), .un, .fz (nD m), .fz (nD n), .un, .un, .un] = .ok ((L.take g).drop 1) := by
          simp [hg, hcut]
        show (seqV _ _).bind _ = _
        rw [h1, R.bind_ok, if_pos hsz, hnone, R.bind_ok]
      refine st_ret _ (toF_ok (d := .bl true) ?_)
      have t2' : 1 ≤ r' := hr1'
      have hv : opL anyD (consA (toV (lcF (seqV (toV (cutF (rdV 4) (oSo (cV (.int 1))) (oSo (opL min2D (consA (rdV 5) (consA (cV (.int 150)) (nilA)))))))) (gN 13) yesT M1_law [13])) (nilA)) [.fz (.sq ns), .fz (nD N), .fz (nD a), .fz (nD k'), .fz (.lst L), .fz (nD r'), .fz (.int 1), .fz (.int y1), .un, .fz (nD m), .fz (nD n), .un, .un, .un] = .ok (.bl false) := by
        refine opL_ok (consA_ok (toV_ow hlc) rfl) ?_
        show (match asBls _ with | some is => R.ok (D.bl (is.any id)) | none => .no) = _
        rw [hany]
        show R.ok (D.bl (List.any _ id)) = _
        rw [hany2]
      simp only [andV, notV, toT]
      rw [hv]
      simp [t2, t2', q2, q3, i1]
    · have c' : ¬ (N : Int) / 72000 % 10 = 1 := by omega
      refine Mp.st_if0 (by simp [sizeLine_eq, d4, c']) ?_
      refine Mp.st_for (rngL 1 150) _ (by simp [sizeLine_eq, r150, r1']) (e1) ?_
      refine Mp.st_set (.fz (.int (Y a m))) _ (by simp [sizeLine_eq, qm, i1]) (by (first | (simp only [List.set_cons_succ, List.set_cons_zero, Mp.frzL, Mp.keepS, if_true, if_false, Bool.false_eq_true] <;> rfl) | rfl)) ?_
      refine Mp.st_set (.fz (.int 1)) _ (by simp [sizeLine_eq]) (by (first | (simp only [List.set_cons_succ, List.set_cons_zero, Mp.frzL, Mp.keepS, if_true, if_false, Bool.false_eq_true] <;> rfl) | rfl)) ?_
      refine Mp.st_for (rngL 0 60) _ (by simp [sizeLine_eq, r60]) (e2) ?_
      exact Mp.st_ret (.fz (.bl true)) (by simp [sizeLine_eq, qn, gn, t3, i0, i1, qc])
  exact congrArg outR e
end K33

namespace K33
open PySem PySem.Spec PyProof.Rows L2 Mp
open Mp (D Sem)
theorem all_mk {l : PySem.W.OpenLaw} {w : World} {K : PySem.W.Frag} {h : Heap} {mg : Str → Option Value} {fa : Addr} (X : K.In h) (G : h.Ns mainGlobals mg) (hfa : mg "law" = some (.ref fa))
    {f0 : Addr} {od0 an0 : Option Addr} {sl0 : Array (Option Value)} {oc0 kV0 dc0 pm0 cd0 ct0 : Value}
    (a0 : PySem.W.nsIn K mainGlobals "_law_pairs" = some (some (.ref f0))) (l0 : K.lookup f0 = some ⟨oc0, od0, .func (PySem.W.fnOf "_law_pairs" "_law_pairs" (defArgs s__law_pairs) (defBody s__law_pairs) (defScope s__law_pairs) .none kV0 dc0 pm0 an0 cd0 ct0), sl0⟩) (c0 : PySem.W.codeIn K cd0 "_law_pairs" = true) (k0 : PySem.W.keepIn K (.ref f0) = true)
    {f1 : Addr} {od1 an1 : Option Addr} {sl1 : Array (Option Value)} {oc1 kV1 dc1 pm1 cd1 ct1 : Value}
    (a1 : PySem.W.nsIn K mainGlobals "rank" = some (some (.ref f1))) (l1 : K.lookup f1 = some ⟨oc1, od1, .func (PySem.W.fnOf "rank" "rank" (defArgs s_rank) (defBody s_rank) (defScope s_rank) .none kV1 dc1 pm1 an1 cd1 ct1), sl1⟩) (c1 : PySem.W.codeIn K cd1 "rank" = true) (k1 : PySem.W.keepIn K (.ref f1) = true)
    {f2 : Addr} {od2 an2 : Option Addr} {sl2 : Array (Option Value)} {oc2 kV2 dc2 pm2 cd2 ct2 : Value}
    (a2 : PySem.W.nsIn K mainGlobals "_digits" = some (some (.ref f2))) (l2 : K.lookup f2 = some ⟨oc2, od2, .func (PySem.W.fnOf "_digits" "_digits" (defArgs s__digits) (defBody s__digits) (defScope s__digits) .none kV2 dc2 pm2 an2 cd2 ct2), sl2⟩) (c2 : PySem.W.codeIn K cd2 "_digits" = true) (k2 : PySem.W.keepIn K (.ref f2) = true)
    {f3 : Addr} {od3 an3 : Option Addr} {sl3 : Array (Option Value)} {oc3 kV3 dc3 pm3 cd3 ct3 : Value}
    (a3 : PySem.W.nsIn K mainGlobals "added" = some (some (.ref f3))) (l3 : K.lookup f3 = some ⟨oc3, od3, .func (PySem.W.fnOf "added" "added" (defArgs s_added) (defBody s_added) (defScope s_added) .none kV3 dc3 pm3 an3 cd3 ct3), sl3⟩) (c3 : PySem.W.codeIn K cd3 "added" = true) (k3 : PySem.W.keepIn K (.ref f3) = true)
    {f4 : Addr} {od4 an4 : Option Addr} {sl4 : Array (Option Value)} {oc4 kV4 dc4 pm4 cd4 ct4 : Value}
    (a4 : PySem.W.nsIn K mainGlobals "pair" = some (some (.ref f4))) (l4 : K.lookup f4 = some ⟨oc4, od4, .func (PySem.W.fnOf "pair" "pair" (defArgs s_pair) (defBody s_pair) (defScope s_pair) .none kV4 dc4 pm4 an4 cd4 ct4), sl4⟩) (c4 : PySem.W.codeIn K cd4 "pair" = true) (k4 : PySem.W.keepIn K (.ref f4) = true)
    {f5 : Addr} {od5 an5 : Option Addr} {sl5 : Array (Option Value)} {oc5 kV5 dc5 pm5 cd5 ct5 : Value}
    (a5 : PySem.W.nsIn K mainGlobals "_law_cell" = some (some (.ref f5))) (l5 : K.lookup f5 = some ⟨oc5, od5, .func (PySem.W.fnOf "_law_cell" "_law_cell" (defArgs s__law_cell) (defBody s__law_cell) (defScope s__law_cell) .none kV5 dc5 pm5 an5 cd5 ct5), sl5⟩) (c5 : PySem.W.codeIn K cd5 "_law_cell" = true) (k5 : PySem.W.keepIn K (.ref f5) = true)
    {f6 : Addr} {od6 an6 : Option Addr} {sl6 : Array (Option Value)} {oc6 kV6 dc6 pm6 cd6 ct6 : Value}
    (a6 : PySem.W.nsIn K mainGlobals "_law_is_integer" = some (some (.ref f6))) (l6 : K.lookup f6 = some ⟨oc6, od6, .func (PySem.W.fnOf "_law_is_integer" "_law_is_integer" (defArgs s__law_is_integer) (defBody s__law_is_integer) (defScope s__law_is_integer) .none kV6 dc6 pm6 an6 cd6 ct6), sl6⟩) (c6 : PySem.W.codeIn K cd6 "_law_is_integer" = true) (k6 : PySem.W.keepIn K (.ref f6) = true)
    {f7 : Addr} {od7 an7 : Option Addr} {sl7 : Array (Option Value)} {oc7 kV7 dc7 pm7 cd7 ct7 : Value}
    (a7 : PySem.W.nsIn K mainGlobals "_law_divides" = some (some (.ref f7))) (l7 : K.lookup f7 = some ⟨oc7, od7, .func (PySem.W.fnOf "_law_divides" "_law_divides" (defArgs s__law_divides) (defBody s__law_divides) (defScope s__law_divides) .none kV7 dc7 pm7 an7 cd7 ct7), sl7⟩) (c7 : PySem.W.codeIn K cd7 "_law_divides" = true) (k7 : PySem.W.keepIn K (.ref f7) = true)
    {f8 : Addr} {od8 an8 : Option Addr} {sl8 : Array (Option Value)} {oc8 kV8 dc8 pm8 cd8 ct8 : Value}
    (a8 : PySem.W.nsIn K mainGlobals "_law_common" = some (some (.ref f8))) (l8 : K.lookup f8 = some ⟨oc8, od8, .func (PySem.W.fnOf "_law_common" "_law_common" (defArgs s__law_common) (defBody s__law_common) (defScope s__law_common) .none kV8 dc8 pm8 an8 cd8 ct8), sl8⟩) (c8 : PySem.W.codeIn K cd8 "_law_common" = true) (k8 : PySem.W.keepIn K (.ref f8) = true)
    {f9 : Addr} {od9 an9 : Option Addr} {sl9 : Array (Option Value)} {oc9 kV9 dc9 pm9 cd9 ct9 : Value}
    (a9 : PySem.W.nsIn K mainGlobals "law" = some (some (.ref f9))) (l9 : K.lookup f9 = some ⟨oc9, od9, .func (PySem.W.fnOf "law" "law" (defArgs s_law) (defBody s_law) (defScope s_law) .none kV9 dc9 pm9 an9 cd9 ct9), sl9⟩) (c9 : PySem.W.codeIn K cd9 "law" = true) (k9 : PySem.W.keepIn K (.ref f9) = true)
    (z_range : PySem.W.nsIn K mainGlobals "range" = some none)
    (z_len : PySem.W.nsIn K mainGlobals "len" = some none)
    (z_isinstance : PySem.W.nsIn K mainGlobals "isinstance" = some none)
    (z_int : PySem.W.nsIn K mainGlobals "int" = some none)
    (z_bool : PySem.W.nsIn K mainGlobals "bool" = some none)
    (z_min : PySem.W.nsIn K mainGlobals "min" = some none)
    (z_any : PySem.W.nsIn K mainGlobals "any" = some none)
    : ∃ fd : FuncData, (∀ (s : Shared) (v : Value), BindsTo s fd ⟨[v], []⟩ [("_law_script", v)]) ∧ ∀ base : Heap, K.In base → base.Ns mainGlobals mg → FnOk l.prog w K mg base CX0 3 fa fd ["_law_script"] (spLaw K 63) := by
  have e := hfa.symm.trans (PySem.W.mg_of X G a9)
  cases e
  have F0 := fun_mk (st := s__law_pairs) l0 c0 k0
  have b0 := F0.binds (ps := ["_law_a", "_law_count"]) fun _ _ _ _ _ _ us hl => match us, hl with | [_, _], _ => rfl
  have F1 := fun_mk (st := s_rank) l1 c1 k1
  have b1 := F1.binds (ps := ["a", "m"]) fun _ _ _ _ _ _ us hl => match us, hl with | [_, _], _ => rfl
  have F2 := fun_mk (st := s__digits) l2 c2 k2
  have b2 := F2.binds (ps := ["n"]) fun _ _ _ _ _ _ us hl => match us, hl with | [_], _ => rfl
  have F3 := fun_mk (st := s_added) l3 c3 k3
  have b3 := F3.binds (ps := ["first", "second", "a"]) fun _ _ _ _ _ _ us hl => match us, hl with | [_, _, _], _ => rfl
  have F4 := fun_mk (st := s_pair) l4 c4 k4
  have b4 := F4.binds (ps := ["n", "a"]) fun _ _ _ _ _ _ us hl => match us, hl with | [_, _], _ => rfl
  have F5 := fun_mk (st := s__law_cell) l5 c5 k5
  have b5 := F5.binds (ps := ["_law_script", "_law_k"]) fun _ _ _ _ _ _ us hl => match us, hl with | [_, _], _ => rfl
  have F6 := fun_mk (st := s__law_is_integer) l6 c6 k6
  have b6 := F6.binds (ps := ["_law_actual"]) fun _ _ _ _ _ _ us hl => match us, hl with | [_], _ => rfl
  have F7 := fun_mk (st := s__law_divides) l7 c7 k7
  have b7 := F7.binds (ps := ["_law_small", "_law_great"]) fun _ _ _ _ _ _ us hl => match us, hl with | [_, _], _ => rfl
  have F8 := fun_mk (st := s__law_common) l8 c8 k8
  have b8 := F8.binds (ps := ["_law_x", "_law_y"]) fun _ _ _ _ _ _ us hl => match us, hl with | [_, _], _ => rfl
  have F9 := fun_mk (st := s_law) l9 c9 k9
  have b9 := F9.binds (ps := ["_law_script"]) fun _ _ _ _ _ _ us hl => match us, hl with | [_], _ => rfl
  refine ⟨PySem.W.fnOf "law" "law" (defArgs s_law) (defBody s_law) (defScope s_law) .none kV9 dc9 pm9 an9 cd9 ct9, fun s v => .of_eq rfl, fun base _ _ => ?_⟩
  have D__law_pairs := d__law_pairs (P := l.prog) (w := w) (base := base) F0 (PySem.W.mg_of X G a0) b0 (PySem.W.mg_none_of X G z_range)
  have D_rank := d_rank (P := l.prog) (w := w) (base := base) F1 (PySem.W.mg_of X G a1) b1
  have D__digits := d__digits (P := l.prog) (w := w) (base := base) F2 (PySem.W.mg_of X G a2) b2
  have D_added := d_added (P := l.prog) (w := w) (base := base) F3 (PySem.W.mg_of X G a3) b3
  have D_pair := d_pair (P := l.prog) (w := w) (base := base) F4 (PySem.W.mg_of X G a4) b4 D__digits D_added
  have D__law_cell := d__law_cell (P := l.prog) (w := w) (base := base) F5 (PySem.W.mg_of X G a5) b5 (PySem.W.mg_none_of X G z_len)
  have D__law_is_integer := d__law_is_integer (P := l.prog) (w := w) (base := base) F6 (PySem.W.mg_of X G a6) b6 (PySem.W.mg_none_of X G z_isinstance) (PySem.W.mg_none_of X G z_int) (PySem.W.mg_none_of X G z_bool)
  have D__law_divides := d__law_divides (P := l.prog) (w := w) (base := base) F7 (PySem.W.mg_of X G a7) b7 (PySem.W.mg_none_of X G z_int)
  have D__law_common := d__law_common (P := l.prog) (w := w) (base := base) F8 (PySem.W.mg_of X G a8) b8 (PySem.W.mg_none_of X G z_range)
  have D_law := d_law (P := l.prog) (w := w) (base := base) F9 (PySem.W.mg_of X G a9) b9 D__law_cell D__law_pairs D_rank D__law_is_integer D__law_divides D_pair D__law_common (PySem.W.mg_none_of X G z_int) (PySem.W.mg_none_of X G z_min) (PySem.W.mg_none_of X G z_any) (PySem.W.mg_none_of X G z_range)
  exact law_ok D_law law_true
end K33
open PySem PySem.W PyProof.Rows
set_option maxHeartbeats 0 in
theorem PySem.Challenge.cw_runroots_k33_what_divides_a_member_holds : PySem.Challenge.rw_runroots_k33_what_divides_a_member.Holds := by
  w_on; o_law; k_head; (case hw => w_witness2)
  k_fill
  refine L2.walk_ofB (l := PySem.Challenge.rw_runroots_k33_what_divides_a_member) (n := 63) (k := 3) (x := "_law_script") (CX := fun _ => L2.CX0) (sp := fun w => Mp.spLaw _ 63) rfl (by decide) rfl ⟨rfl, by decide, by decide⟩ (fun w h Y => PySem.W.kIn_of Y) ?F (fun _ _ a ns hl hbt ho hS => ⟨a, ns, rfl, hS, hl, hbt, ho, fun _ => rfl⟩) (fun _ _ _ _ _ h => h)
  case F =>
    intro w mg fa h KX G hmg
    refine' K33.all_mk KX G hmg ?a0 ?l0 ?c0 ?k0 ?a1 ?l1 ?c1 ?k1 ?a2 ?l2 ?c2 ?k2 ?a3 ?l3 ?c3 ?k3 ?a4 ?l4 ?c4 ?k4 ?a5 ?l5 ?c5 ?k5 ?a6 ?l6 ?c6 ?k6 ?a7 ?l7 ?c7 ?k7 ?a8 ?l8 ?c8 ?k8 ?a9 ?l9 ?c9 ?k9 ?z_range ?z_len ?z_isinstance ?z_int ?z_bool ?z_min ?z_any
    (case a0 => k_is); (case l0 => k_is); (case c0 => k_is); (case k0 => k_is); (case a1 => k_is); (case l1 => k_is); (case c1 => k_is); (case k1 => k_is); (case a2 => k_is); (case l2 => k_is); (case c2 => k_is); (case k2 => k_is); (case a3 => k_is); (case l3 => k_is); (case c3 => k_is); (case k3 => k_is); (case a4 => k_is); (case l4 => k_is); (case c4 => k_is); (case k4 => k_is); (case a5 => k_is); (case l5 => k_is); (case c5 => k_is); (case k5 => k_is); (case a6 => k_is); (case l6 => k_is); (case c6 => k_is); (case k6 => k_is); (case a7 => k_is); (case l7 => k_is); (case c7 => k_is); (case k7 => k_is); (case a8 => k_is); (case l8 => k_is); (case c8 => k_is); (case k8 => k_is); (case a9 => k_is); (case l9 => k_is); (case c9 => k_is); (case k9 => k_is); (case z_range => k_is); (case z_len => k_is); (case z_isinstance => k_is); (case z_int => k_is); (case z_bool => k_is); (case z_min => k_is); (case z_any => k_is)
