import PyProof.Rows.All
import Wide.All
import OpenK.AllK
import Wide.FinOn
import HandS.ForMost
import HandS.ForExc
import HandS.Lambda
import HandS.SortInts
import HandS.IsInst
import HandS.StrMore
import HandS.Style
import HandS.RaiseMore
import HandS.Flow
import HandS.CallLocal
import HandS.ClsMeth
import HandS.SlotsOwn
import HandS.More
import HandS.SortKw
import KE.SortKeyHeap
import HandS.EndTab
import HandS.Deep
import HandS.TupAny
import PyProof.RulesMatch
import HandS.Head2
import HandS.HeadHook4
import HandS.HeadNt
import HandS.HeadEnd
import HandS.SetFor
import HandS.Strs
import HandS.Star
import PySem.Challenge.RW_speaklast_k85_filters_as_texts
set_option Elab.async false
set_option linter.all false
set_option maxRecDepth 100000
set_option maxHeartbeats 0
/-! S1: a calculus of weakest preconditions over slots and a store, above HandS: immutable data are terms (D), objects that change stand in a store. -/
namespace Sx
open PySem PySem.Spec PyProof.Rows L2
open LamX (Tabs TabS)
abbrev Sg := L2.St

/-! ### data -/
inductive D where
  | non | bl (b : Bool) | int (i : Int) | str (x : Str) | tup (ds : List D) | ref (a : Addr) | ty (n : String) | ins (C : Addr) (fs : List (Str × D)) | ro (ds : List D)

/-- the text's written part, the classes whose instances may change, the tables of code objects -/
structure Gv where
  K : PySem.W.Frag
  MC : Addr → Prop
  T : List (Addr × Str)

def Imm (G : Gv) : HO → Prop
  | .tup _ => True
  | .frz _ _ => True
  | .xd _ => True
  | .ins C _ _ => ¬ G.MC C
  | _ => False
/-- all that does not change is kept -/
def Kp (G : Gv) (H H' : Hp) : Prop := ∀ b o, H b = some o → Imm G o → H' b = some o
theorem Kp.refl {G : Gv} {H : Hp} : Kp G H H := fun _ _ h _ => h
theorem Kp.trans {G : Gv} {H H1 H2 : Hp} (a : Kp G H H1) (b : Kp G H1 H2) : Kp G H H2 := fun c o h i => b c o (a c o h i) i

/-- a list that no one changes: it stood there before, or is the module's own -/
def SqF (K : PySem.W.Frag) (H : Hp) (a : Addr) (xs : List V) : Prop := (∃ o, H a = some (.frz o (.lst xs))) ∨ SqL K (fun _ => none) a xs
theorem SqF.sq {K : PySem.W.Frag} {H : Hp} {a : Addr} {xs : List V} (h : SqF K H a xs) : SqL K H a xs := by
  rcases h with ⟨o, h⟩ | (h | ⟨o, h⟩) | h
  · exact .inl (.inr ⟨o, h⟩)
  · cases h
  · cases h
  · exact .inr h
mutual
def D.At (G : Gv) (H : Hp) : D → V → Prop
  | .non, v => v = .non
  | .bl b, v => v = .bl b
  | .int i, v => v = .int i
  | .str x, v => v = .str x
  | .ref a, v => v = .ref a
  | .ty n, v => v = .ty n
  | .tup ds, v => ∃ a xs, v = .ref a ∧ SqT G.K H a xs ∧ D.Ats G H ds xs
  | .ins C fs, v => ∃ a dx ws, v = .ref a ∧ H a = some (.ins C dx ws) ∧ ¬ G.MC C ∧ D.Afs G H fs ws
  | .ro ds, v => ∃ a xs, v = .ref a ∧ SqF G.K H a xs ∧ D.Ats G H ds xs
def D.Ats (G : Gv) (H : Hp) : List D → List V → Prop
  | [], xs => xs = []
  | d :: ds, xs => ∃ x ys, xs = x :: ys ∧ D.At G H d x ∧ D.Ats G H ds ys
def D.Afs (G : Gv) (H : Hp) : List (Str × D) → List (Str × V) → Prop
  | [], ws => ws = []
  | (f, d) :: fs, ws => ∃ x ys, ws = (f, x) :: ys ∧ D.At G H d x ∧ D.Afs G H fs ys
end
theorem Kp.seqT {G : Gv} {H H' : Hp} {a : Addr} {xs : List V} (k : Kp G H H') (h : SqT G.K H a xs) : SqT G.K H' a xs := by
  rcases h with (h | ⟨o, h⟩) | h
  · exact .inl (.inl (k _ _ h trivial))
  · exact .inl (.inr ⟨o, k _ _ h trivial⟩)
  · exact .inr h
theorem Kp.seqF {G : Gv} {H H' : Hp} {a : Addr} {xs : List V} (k : Kp G H H') (h : SqF G.K H a xs) : SqF G.K H' a xs := by
  rcases h with ⟨o, h⟩ | h
  · exact .inl ⟨o, k _ _ h trivial⟩
  · exact .inr h
mutual
theorem D.At.kp {G : Gv} {H H' : Hp} (k : Kp G H H') : ∀ {d : D} {v : V}, D.At G H d v → D.At G H' d v
  | .non, _, h => by simpa only [D.At] using h
  | .bl _, _, h => by simpa only [D.At] using h
  | .int _, _, h => by simpa only [D.At] using h
  | .str _, _, h => by simpa only [D.At] using h
  | .ref _, _, h => by simpa only [D.At] using h
  | .ty _, _, h => by simpa only [D.At] using h
  | .tup ds, v, h => by
    simp only [D.At] at h ⊢
    obtain ⟨a, xs, e, s, r⟩ := h
    exact ⟨a, xs, e, k.seqT s, D.Ats.kp k r⟩
  | .ins C fs, v, h => by
    simp only [D.At] at h ⊢
    obtain ⟨a, dx, ws, e, s, m, r⟩ := h
    exact ⟨a, dx, ws, e, k _ _ s m, m, D.Afs.kp k r⟩
  | .ro ds, v, h => by
    simp only [D.At] at h ⊢
    obtain ⟨a, xs, e, s, r⟩ := h
    exact ⟨a, xs, e, k.seqF s, D.Ats.kp k r⟩
theorem D.Ats.kp {G : Gv} {H H' : Hp} (k : Kp G H H') : ∀ {ds : List D} {xs : List V}, D.Ats G H ds xs → D.Ats G H' ds xs
  | [], _, h => by simpa only [D.Ats] using h
  | d :: ds, xs, h => by
    simp only [D.Ats] at h ⊢
    obtain ⟨x, ys, e, a, r⟩ := h
    exact ⟨x, ys, e, D.At.kp k a, D.Ats.kp k r⟩
theorem D.Afs.kp {G : Gv} {H H' : Hp} (k : Kp G H H') : ∀ {fs : List (Str × D)} {ws : List (Str × V)}, D.Afs G H fs ws → D.Afs G H' fs ws
  | [], _, h => by simpa only [D.Afs] using h
  | (f, d) :: fs, xs, h => by
    simp only [D.Afs] at h ⊢
    obtain ⟨x, ys, e, a, r⟩ := h
    exact ⟨x, ys, e, D.At.kp k a, D.Afs.kp k r⟩
end
section
variable {G : Gv} {H : Hp}
theorem at_int {i : Int} {v : V} : D.At G H (.int i) v ↔ v = .int i := by simp only [D.At]
theorem at_str {i : Str} {v : V} : D.At G H (.str i) v ↔ v = .str i := by simp only [D.At]
theorem at_bl {i : Bool} {v : V} : D.At G H (.bl i) v ↔ v = .bl i := by simp only [D.At]
theorem at_non {v : V} : D.At G H .non v ↔ v = .non := by simp only [D.At]
theorem at_ref {i : Addr} {v : V} : D.At G H (.ref i) v ↔ v = .ref i := by simp only [D.At]
theorem at_ty {i : String} {v : V} : D.At G H (.ty i) v ↔ v = .ty i := by simp only [D.At]
theorem at_tup {ds : List D} {v : V} : D.At G H (.tup ds) v ↔ ∃ a xs, v = .ref a ∧ SqT G.K H a xs ∧ D.Ats G H ds xs := by simp only [D.At]
theorem at_ro {ds : List D} {v : V} : D.At G H (.ro ds) v ↔ ∃ a xs, v = .ref a ∧ SqF G.K H a xs ∧ D.Ats G H ds xs := by simp only [D.At]
theorem at_ins {C : Addr} {fs : List (Str × D)} {v : V} : D.At G H (.ins C fs) v ↔ ∃ a dx ws, v = .ref a ∧ H a = some (.ins C dx ws) ∧ ¬ G.MC C ∧ D.Afs G H fs ws := by simp only [D.At]
theorem ats_nil {xs : List V} : D.Ats G H [] xs ↔ xs = [] := by simp only [D.Ats]
theorem ats_cons {d : D} {ds : List D} {xs : List V} : D.Ats G H (d :: ds) xs ↔ ∃ x ys, xs = x :: ys ∧ D.At G H d x ∧ D.Ats G H ds ys := by simp only [D.Ats]
theorem afs_nil {xs : List (Str × V)} : D.Afs G H [] xs ↔ xs = [] := by simp only [D.Afs]
theorem afs_cons {f : Str} {d : D} {ds : List (Str × D)} {xs : List (Str × V)} : D.Afs G H ((f, d) :: ds) xs ↔ ∃ x ys, xs = (f, x) :: ys ∧ D.At G H d x ∧ D.Afs G H ds ys := by simp only [D.Afs]
theorem D.Ats.length : ∀ {ds : List D} {xs : List V}, D.Ats G H ds xs → xs.length = ds.length
  | [], _, h => by
    rw [ats_nil.mp h]
    rfl
  | d :: ds, xs, h => by
    obtain ⟨x, ys, rfl, _, r⟩ := ats_cons.mp h
    rw [List.length_cons, List.length_cons, D.Ats.length r]
theorem D.Ats.get : ∀ {ds : List D} {xs : List V} {i : Nat} {d : D}, D.Ats G H ds xs → ds[i]? = some d → ∃ x, xs[i]? = some x ∧ D.At G H d x
  | [], _, _, _, _, e => by simp at e
  | d :: ds, xs, 0, d', h, e => by
    obtain ⟨x, ys, rfl, a, _⟩ := ats_cons.mp h
    simp at e; subst e
    exact ⟨x, rfl, a⟩
  | d :: ds, xs, i + 1, d', h, e => by
    obtain ⟨x, ys, rfl, _, r⟩ := ats_cons.mp h
    simpa using D.Ats.get r (by simpa using e)
theorem D.Ats.get' : ∀ {ds : List D} {xs : List V} {i : Nat} {x : V}, D.Ats G H ds xs → xs[i]? = some x → ∃ d, ds[i]? = some d ∧ D.At G H d x := fun {ds xs i x} h e => by
  have hi : i < ds.length := by
    rw [← h.length]
    exact (List.getElem?_eq_some_iff.mp e).1
  obtain ⟨y, e2, a⟩ := h.get (List.getElem?_eq_getElem hi)
  rw [e] at e2
  cases e2
  exact ⟨_, List.getElem?_eq_getElem hi, a⟩
theorem D.Ats.append : ∀ {ds es : List D} {xs ys : List V}, D.Ats G H ds xs → D.Ats G H es ys → D.Ats G H (ds ++ es) (xs ++ ys)
  | [], _, xs, _, h, h2 => by
    rw [ats_nil.mp h]
    exact h2
  | d :: ds, es, xs, ys, h, h2 => by
    obtain ⟨x, zs, rfl, a, r⟩ := ats_cons.mp h
    exact ats_cons.mpr ⟨x, zs ++ ys, rfl, a, D.Ats.append r h2⟩
theorem D.Ats.one {d : D} {x : V} (h : D.At G H d x) : D.Ats G H [d] [x] := ats_cons.mpr ⟨x, [], rfl, h, ats_nil.mpr rfl⟩
theorem D.Ats.set : ∀ {ds : List D} {xs : List V} {i : Nat} {d : D} {x : V}, D.Ats G H ds xs → D.At G H d x → D.Ats G H (ds.set i d) (xs.set i x)
  | [], xs, _, _, _, h, _ => by
    rw [ats_nil.mp h]
    exact ats_nil.mpr rfl
  | d :: ds, xs, 0, d', x', h, a' => by
    obtain ⟨x, ys, rfl, a, r⟩ := ats_cons.mp h
    exact ats_cons.mpr ⟨x', ys, rfl, a', r⟩
  | d :: ds, xs, i + 1, d', x', h, a' => by
    obtain ⟨x, ys, rfl, a, r⟩ := ats_cons.mp h
    exact ats_cons.mpr ⟨x, ys.set i x', rfl, a, D.Ats.set r a'⟩
theorem D.Ats.take : ∀ (n : Nat) {ds : List D} {xs : List V}, D.Ats G H ds xs → D.Ats G H (ds.take n) (xs.take n)
  | 0, _, _, _ => ats_nil.mpr rfl
  | n + 1, [], xs, h => by
    rw [ats_nil.mp h]
    exact ats_nil.mpr rfl
  | n + 1, d :: ds, xs, h => by
    obtain ⟨x, ys, rfl, a, r⟩ := ats_cons.mp h
    exact ats_cons.mpr ⟨x, _, rfl, a, D.Ats.take n r⟩
theorem D.Ats.drop : ∀ (n : Nat) {ds : List D} {xs : List V}, D.Ats G H ds xs → D.Ats G H (ds.drop n) (xs.drop n)
  | 0, _, _, h => h
  | n + 1, [], xs, h => by
    rw [ats_nil.mp h]
    exact ats_nil.mpr rfl
  | n + 1, d :: ds, xs, h => by
    obtain ⟨x, ys, rfl, a, r⟩ := ats_cons.mp h
    exact D.Ats.drop n r
theorem D.Ats.ints : ∀ {ns : List Int} {xs : List V}, D.Ats G H (ns.map D.int) xs ↔ xs = ns.map V.int
  | [], xs => ats_nil
  | n :: ns, xs => by
    rw [List.map_cons, List.map_cons, ats_cons]
    constructor
    · rintro ⟨x, ys, rfl, a, r⟩
      rw [at_int.mp a, D.Ats.ints.mp r]
    · rintro rfl
      exact ⟨_, _, rfl, at_int.mpr rfl, D.Ats.ints.mpr rfl⟩
theorem D.Ats.strs : ∀ {ns : List Str} {xs : List V}, D.Ats G H (ns.map D.str) xs ↔ xs = ns.map V.str
  | [], xs => ats_nil
  | n :: ns, xs => by
    rw [List.map_cons, List.map_cons, ats_cons]
    constructor
    · rintro ⟨x, ys, rfl, a, r⟩
      rw [at_str.mp a, D.Ats.strs.mp r]
    · rintro rfl
      exact ⟨_, _, rfl, at_str.mpr rfl, D.Ats.strs.mpr rfl⟩
end

/-! ### the store -/
inductive Mo where
  | lst (ds : List D) | dic (kvs : List (Key × D)) | obj (C : Addr) (fs : List (Str × D))
abbrev Sto := List (Addr × Mo)
abbrev Rho := List (Option D)
def D.Aks (G : Gv) (H : Hp) : List (Key × D) → List (Key × V) → Prop
  | [], ws => ws = []
  | (f, d) :: fs, ws => ∃ x ys, ws = (f, x) :: ys ∧ D.At G H d x ∧ D.Aks G H fs ys
theorem D.Aks.kp {G : Gv} {H H' : Hp} (k : Kp G H H') : ∀ {fs : List (Key × D)} {ws : List (Key × V)}, D.Aks G H fs ws → D.Aks G H' fs ws
  | [], _, h => h
  | (f, d) :: fs, xs, h => by
    obtain ⟨x, ys, e, a, r⟩ := h
    exact ⟨x, ys, e, a.kp k, D.Aks.kp k r⟩
def Mo.At (G : Gv) (H : Hp) : Mo → HO → Prop
  | .lst ds, o => ∃ xs, o = .lst xs ∧ D.Ats G H ds xs
  | .dic kvs, o => ∃ ws, o = .dK ws ∧ D.Aks G H kvs ws
  | .obj C fs, o => ∃ dx ws, o = .ins C dx ws ∧ G.MC C ∧ D.Afs G H fs ws
theorem Mo.At.kp {G : Gv} {H H' : Hp} (k : Kp G H H') {m : Mo} {o : HO} (h : m.At G H o) : m.At G H' o := by
  cases m with
  | lst ds => obtain ⟨xs, e, r⟩ := h; exact ⟨xs, e, r.kp k⟩
  | dic kvs => obtain ⟨xs, e, r⟩ := h; exact ⟨xs, e, r.kp k⟩
  | obj C fs => obtain ⟨dx, xs, e, m, r⟩ := h; exact ⟨dx, xs, e, m, r.kp k⟩
theorem Mo.At.nimm {G : Gv} {H : Hp} {m : Mo} {o : HO} (h : m.At G H o) : ¬ Imm G o := by
  cases m with
  | lst ds => obtain ⟨xs, rfl, r⟩ := h; exact id
  | dic kvs => obtain ⟨xs, rfl, r⟩ := h; exact id
  | obj C fs => obtain ⟨dx, xs, rfl, m, r⟩ := h; exact fun z => z m
theorem Mo.At.ntbl {G : Gv} {H : Hp} {m : Mo} {o : HO} (h : m.At G H o) : ∀ ps, o ≠ .tbl ps := by
  cases m with
  | lst ds => obtain ⟨xs, rfl, r⟩ := h; exact fun _ z => nomatch z
  | dic kvs => obtain ⟨xs, rfl, r⟩ := h; exact fun _ z => nomatch z
  | obj C fs => obtain ⟨dx, xs, rfl, m, r⟩ := h; exact fun _ z => nomatch z

/-! ### frames -/
structure Fr (G : Gv) (fp : List Addr) (H0 H : Hp) : Prop where
  keep : ∀ b o, H0 b = some o → (∀ ps, o ≠ .tbl ps) → b ∉ fp → H b = some o
  stay : ∀ b o, H0 b = some o → (∀ ps, o ≠ .tbl ps) → ∃ o', H b = some o' ∧ ∀ ps, o' ≠ .tbl ps
  imm : Kp G H0 H
theorem Fr.refl {G : Gv} {fp : List Addr} {H : Hp} : Fr G fp H H := ⟨fun _ _ h _ _ => h, fun _ o h n => ⟨o, h, n⟩, Kp.refl⟩
theorem Fr.trans {G : Gv} {fp : List Addr} {H H1 H2 : Hp} (a : Fr G fp H H1) (b : Fr G fp H1 H2) : Fr G fp H H2 :=
  ⟨fun c o h n i => b.keep c o (a.keep c o h n i) n i, fun c o h n => let ⟨o', h', n'⟩ := a.stay c o h n; b.stay c o' h' n', a.imm.trans b.imm⟩
/-- nothing stands there, a table apart -/
def Vac (H : Hp) (b : Addr) : Prop := ∀ o, H b = some o → ∃ ps, o = .tbl ps
theorem Fr.vac {G : Gv} {fp : List Addr} {H H1 : Hp} (a : Fr G fp H H1) {b : Addr} (h : Vac H1 b) : Vac H b := fun o e => by
  cases q : o with
  | tbl ps => exact ⟨ps, rfl⟩
  | _ =>
    obtain ⟨o', e', n'⟩ := a.stay b o e (by rw [q]; exact fun _ z => nomatch z)
    obtain ⟨ps, z⟩ := h o' e'
    exact absurd z (n' ps)
theorem vac_none {H : Hp} {b : Addr} (h : H b = none) : Vac H b := fun o e => by rw [h] at e; cases e
/-- one thing is described at its place -/
def Held (G : Gv) (H : Hp) (a : Addr) (m : Mo) : Prop := ∃ o, H a = some o ∧ m.At G H o
structure Ht (G : Gv) (fp : List Addr) (H0 H : Hp) (η : Sto) : Prop where
  at_ : ∀ a m, (a, m) ∈ η → Held G H a m
  own : ∀ a m, (a, m) ∈ η → a ∈ fp ∨ Vac H0 a
  nd : (η.map (·.1)).Nodup
structure Sl (G : Gv) (fp : List Addr) (H0 H : Hp) (σ : L2.St) (ρ : Rho) (η : Sto) : Prop where
  fr : Fr G fp H0 H
  tb : Tabs G.T H
  len : σ.length = ρ.length
  sl : ∀ (i : Nat) (d : D), ρ[i]? = some (some d) → ∃ v, σ[i]? = some (some v) ∧ D.At G H d v
  st : Ht G fp H0 H η
/-- growth that keeps all that is tracked (tables apart) -/
structure Gr (G : Gv) (H H' : Hp) : Prop where
  keep : ∀ b o, H b = some o → (∀ ps, o ≠ .tbl ps) → H' b = some o
  tabs : Tabs G.T H → Tabs G.T H'
theorem Gr.refl {G : Gv} {H : Hp} : Gr G H H := ⟨fun _ _ h _ => h, fun h => h⟩
theorem Gr.trans {G : Gv} {H H1 H2 : Hp} (a : Gr G H H1) (b : Gr G H1 H2) : Gr G H H2 := ⟨fun c o h n => b.keep c o (a.keep c o h n) n, fun t => b.tabs (a.tabs t)⟩
theorem imm_ntbl {G : Gv} {o : HO} (h : Imm G o) : ∀ ps, o ≠ .tbl ps := fun ps e => by subst e; exact h
theorem Gr.kp {G : Gv} {H H' : Hp} (g : Gr G H H') : Kp G H H' := fun b o h i => g.keep b o h (imm_ntbl i)
theorem Gr.fr {G : Gv} {fp : List Addr} {H H' : Hp} (g : Gr G H H') : Fr G fp H H' := ⟨fun b o h n _ => g.keep b o h n, fun b o h n => ⟨o, g.keep b o h n, n⟩, g.kp⟩
theorem Gr.new {G : Gv} {H : Hp} {p : Addr} {o : HO} (h : H p = none) : Gr G H (upd H p o) where
  keep := fun b u e _ => by
    rw [upd_ne (ne_of_none e h)]
    exact e
  tabs := fun t q hq => (t q hq).ext fun b u e => by
    rw [upd_ne (ne_of_none e h)]
    exact e
section
variable {G : Gv} {fp : List Addr} {H0 H H' : Hp} {σ : L2.St} {ρ : Rho} {η : Sto}
theorem Held.gr {a : Addr} {m : Mo} (h : Held G H a m) (g : Gr G H H') : Held G H' a m := by
  obtain ⟨o, e, r⟩ := h
  exact ⟨o, g.keep a o e r.ntbl, r.kp g.kp⟩
theorem Sl.gr (S : Sl G fp H0 H σ ρ η) (g : Gr G H H') : Sl G fp H0 H' σ ρ η where
  fr := S.fr.trans g.fr
  tb := g.tabs S.tb
  len := S.len
  sl := fun i d h => by
    obtain ⟨v, e, a⟩ := S.sl i d h
    exact ⟨v, e, a.kp g.kp⟩
  st := ⟨fun a m h => (S.st.at_ a m h).gr g, S.st.own, S.st.nd⟩
/-- a new object that may change -/
theorem Sl.alloc {p : Addr} {m : Mo} {o : HO} (S : Sl G fp H0 H σ ρ η) (hp : H p = none) (hm : m.At G H o) : Sl G fp H0 (upd H p o) σ ρ ((p, m) :: η) := by
  have g : Gr G H (upd H p o) := Gr.new hp
  have S' := S.gr g
  refine ⟨S'.fr, S'.tb, S'.len, S'.sl, ⟨fun a m' h => ?_, fun a m' h => ?_, ?_⟩⟩
  · rcases List.mem_cons.mp h with e | h
    · cases e
      exact ⟨o, upd_same, hm.kp g.kp⟩
    · exact S'.st.at_ a m' h
  · rcases List.mem_cons.mp h with e | h
    · cases e
      exact .inr (S.fr.vac (vac_none hp))
    · exact S'.st.own a m' h
  · rw [List.map_cons, List.nodup_cons]
    refine ⟨fun z => ?_, S.st.nd⟩
    obtain ⟨⟨a, m'⟩, hq, e⟩ := List.mem_map.mp z
    obtain ⟨o', e', _⟩ := S.st.at_ a m' hq
    have e2 : a = p := e
    rw [e2, hp] at e'
    cases e'
/-- the store after a change of the thing at a -/
def putM (a : Addr) (m : Mo) : Sto → Sto
  | [] => []
  | (b, n) :: r => if b = a then (b, m) :: r else (b, n) :: putM a m r
theorem putM_keys (a : Addr) (m : Mo) : ∀ η : Sto, (putM a m η).map (·.1) = η.map (·.1)
  | [] => rfl
  | (b, n) :: r => by
    unfold putM
    split
    · rfl
    · rw [List.map_cons, List.map_cons, putM_keys a m r]
theorem mem_putM {a : Addr} {m : Mo} : ∀ {η : Sto}, (η.map (·.1)).Nodup → ∀ {b : Addr} {n : Mo}, (b, n) ∈ putM a m η → (b = a ∧ n = m) ∨ (b ≠ a ∧ (b, n) ∈ η)
  | [], _, _, _, h => by simp [putM] at h
  | (c, k) :: r, nd, b, n, h => by
    rw [List.map_cons, List.nodup_cons] at nd
    unfold putM at h
    split at h
    · rename_i e
      rcases List.mem_cons.mp h with q | q
      · injection q with q1 q2
        exact .inl ⟨q1.trans e, q2⟩
      · refine .inr ⟨fun z => nd.1 ?_, List.mem_cons_of_mem _ q⟩
        have : c ∈ r.map (·.1) := List.mem_map.mpr ⟨(b, n), q, by rw [e]; exact z⟩
        exact this
    · rename_i e
      rcases List.mem_cons.mp h with q | q
      · injection q with q1 q2
        exact .inr ⟨fun z => e (q1 ▸ z), by rw [q1, q2]; exact List.mem_cons_self⟩
      · rcases mem_putM nd.2 q with z | ⟨z1, z2⟩
        · exact .inl z
        · exact .inr ⟨z1, List.mem_cons_of_mem _ z2⟩
/-- a thing of the store changes -/
theorem Sl.put {a : Addr} {m m' : Mo} {o' : HO} (S : Sl G fp H0 H σ ρ η) (hm : (a, m) ∈ η) (hn : m'.At G H o') : Sl G fp H0 (upd H a o') σ ρ (putM a m' η) ∧ Kp G H (upd H a o') := by
  obtain ⟨o, e, r⟩ := S.st.at_ a m hm
  have k : Kp G H (upd H a o') := fun b u eb i => by
    by_cases hb : b = a
    · subst hb
      rw [e] at eb
      cases eb
      exact absurd i r.nimm
    · rw [upd_ne hb]; exact eb
  have st : ∀ b u, H b = some u → (∀ ps, u ≠ .tbl ps) → ∃ u', upd H a o' b = some u' ∧ ∀ ps, u' ≠ .tbl ps := fun b u eb n => by
    by_cases hb : b = a
    · subst hb
      exact ⟨o', upd_same, hn.ntbl⟩
    · exact ⟨u, by rw [upd_ne hb]; exact eb, n⟩
  refine ⟨⟨⟨fun b u eb n hb => ?_, fun b u eb n => let ⟨u1, e1, n1⟩ := S.fr.stay b u eb n; st b u1 e1 n1, S.fr.imm.trans k⟩, fun q hq => ?_, S.len, fun i d h => ?_, ⟨fun b n h => ?_, fun b n h => ?_, ?_⟩⟩, k⟩
  · have e1 := S.fr.keep b u eb n hb
    have nb : b ≠ a := fun z => by
      subst z
      rcases S.st.own b m hm with z | z
      · exact hb z
      · obtain ⟨ps, z⟩ := z u eb
        exact n ps z
    rw [upd_ne nb]
    exact e1
  · obtain ⟨ps, h1, h2, h3⟩ := S.tb q hq
    refine ⟨ps, ?_, h2, fun pos cv hc => ?_⟩
    · rw [upd_ne]
      · exact h1
      · intro z
        rw [z, e] at h1
        exact r.ntbl ps (Option.some.inj h1)
    · obtain ⟨c, e1, e2⟩ := h3 pos cv hc
      refine ⟨c, e1, ?_⟩
      rw [upd_ne]
      · exact e2
      · intro z
        rw [z, e] at e2
        have e3 := Option.some.inj e2
        subst e3
        cases m with
        | lst ds => obtain ⟨xs, z, _⟩ := r; cases z
        | dic kvs => obtain ⟨xs, z, _⟩ := r; cases z
        | obj C fs => obtain ⟨dx, xs, z, _⟩ := r; cases z
  · obtain ⟨v, e1, e2⟩ := S.sl i d h
    exact ⟨v, e1, e2.kp k⟩
  · rcases mem_putM S.st.nd h with ⟨rfl, rfl⟩ | ⟨nb, h⟩
    · exact ⟨o', upd_same, hn.kp k⟩
    · obtain ⟨u, e1, e2⟩ := S.st.at_ b n h
      exact ⟨u, by rw [upd_ne nb]; exact e1, e2.kp k⟩
  · rcases mem_putM S.st.nd h with ⟨rfl, rfl⟩ | ⟨nb, h⟩
    · exact S.st.own _ m hm
    · exact S.st.own b n h
  · rw [putM_keys]
    exact S.st.nd
/-- less is known of the store; in another order -/
theorem Sl.sub {η' : Sto} (S : Sl G fp H0 H σ ρ η) (h : ∀ p ∈ η', p ∈ η) (nd : (η'.map (·.1)).Nodup) : Sl G fp H0 H σ ρ η' :=
  ⟨S.fr, S.tb, S.len, S.sl, ⟨fun a m q => S.st.at_ a m (h _ q), fun a m q => S.st.own a m (h _ q), nd⟩⟩
theorem Sl.perm {η' : Sto} (S : Sl G fp H0 H σ ρ η) (h : η.Perm η') : Sl G fp H0 H σ ρ η' :=
  S.sub (fun p hp => h.mem_iff.mpr hp) ((h.map (·.1)).nodup_iff.mp S.st.nd)
/-- a slot is stored -/
theorem Sl.set {i : Nat} {d : D} {v : V} (S : Sl G fp H0 H σ ρ η) (h : D.At G H d v) : Sl G fp H0 H (σ.set i (some v)) (ρ.set i (some d)) η := by
  refine ⟨S.fr, S.tb, by rw [List.length_set, List.length_set]; exact S.len, fun j d' e => ?_, S.st⟩
  by_cases hj : i = j
  · subst hj
    have hi : i < ρ.length := by
      have := (List.getElem?_eq_some_iff.mp e).1
      rw [List.length_set] at this
      exact this
    rw [List.getElem?_set_self hi] at e
    cases e
    exact ⟨v, List.getElem?_set_self (by rw [S.len]; exact hi), h⟩
  · rw [List.getElem?_set_ne hj] at e
    rw [List.getElem?_set_ne hj]
    exact S.sl j d' e
end
end Sx

/-! S2: the judgements and the rules of expressions. -/
namespace Sx
open PySem PySem.Spec PyProof.Rows L2
open LamX (Tabs TabS)

/-! how arguments are told: no star is among them -/
def noStar : Expr → Bool
  | .Starred _ _ => false
  | _ => true
theorem star_cons {e : Expr} {es : List Expr} {env : Env} (h : noStar e = true) : starEach (e :: es) env = (false, eval e env) :: starEach es env := by
  cases e <;> first
    | rfl
    | cases h
theorem star_all {pos : Pos} {env : Env} : ∀ {es : List Expr}, es.all noStar = true → (backTo pos (starEach es env)).all (fun x => !x.1) = true
  | [], _ => rfl
  | e :: es, h => by
    rw [List.all_cons, Bool.and_eq_true] at h
    rw [star_cons h.1]
    show ((!false) && (backTo pos (starEach es env)).all (fun x => !x.1)) = true
    rw [star_all h.2]
    rfl
theorem star_any {pos : Pos} {env : Env} : ∀ {es : List Expr}, es.all noStar = true → (backTo pos (starEach es env)).any (·.1) = false
  | [], _ => rfl
  | e :: es, h => by
    rw [List.all_cons, Bool.and_eq_true] at h
    rw [star_cons h.1]
    show (false || (backTo pos (starEach es env)).any (·.1)) = false
    rw [star_any h.2]
    rfl
theorem star_few {pos : Pos} {env : Env} {es : List Expr} (h : es.all noStar = true) (h2 : es.length < 30) : ((backTo pos (starEach es env)).all (fun x => !x.1) && (backToKw pos (keywordEach [] env)).all (fun x => x.1.isSome)
      && decide (es.length + ([] : List Keyword).length + (if ([] : List Keyword).isEmpty then 0 else 1) < 30)) = true := by
  rw [star_all h]
  show (true && true && decide (es.length + 0 + 0 < 30)) = true
  rw [decide_eq_true (by omega)]
  rfl
/-! ### the weakest readings -/
structure wE (X : Cx) (e : Expr)  (σ : L2.St) (H : Hp) (Q : VK) : Prop where
  run : ∀ pins s, Inv X pins σ H s → wpAny (model X.prog X.w) X.A (eval e X.env) (EP X pins σ Q) X.xe s
structure wT (X : Cx) (e : Expr)  (σ : L2.St) (H : Hp) (Q : Bool → Hp → Prop) : Prop where
  run : ∀ pins s, Inv X pins σ H s → wpAny (model X.prog X.w) X.A (isTrue e X.env (eval e X.env)) (TP X pins σ Q) X.xe s
structure wW (X : Cx) (e : Expr)  (σ : L2.St) (H : Hp) (Q : Bool → Hp → Prop) : Prop where
  run : ∀ (whole : Sem Value) pins s, Inv X pins σ H s → wpAny (model X.prog X.w) X.A (isTrue e X.env whole) (TP X pins σ Q) X.xe s
structure wA (X : Cx) (es : List Expr)  (σ : L2.St) (H : Hp) (Q : List V → Hp → Prop) : Prop where
  run : ∀ (pos : Pos) pins s, Inv X pins σ H s → wpAny (model X.prog X.w) X.A (spliced (backTo pos (starEach es X.env))) (AP X pins σ Q) X.xe s
structure wS (X : Cx) (st : Stmt)  (D : Ends) (σ : L2.St) (H : Hp) : Prop where
  run : ∀ pins s, Inv X pins σ H s → wpAny (model X.prog X.w) X.A (exec st X.env) (SP X pins D) X.xe s
structure wSs (X : Cx) (st : List Stmt)  (D : Ends) (σ : L2.St) (H : Hp) : Prop where
  run : ∀ pins s, Inv X pins σ H s → wpAny (model X.prog X.w) X.A (execs st X.env) (SP X pins D) X.xe s
section
variable {X : Cx} {e : Expr} {es : List Expr} {st : Stmt} {sts : List Stmt}
theorem pe_w : PE X e (wE X e) := ⟨fun pins s _ _ _ I h => h.run pins s I⟩
theorem pt_w : PT X e (wT X e) := ⟨fun pins s _ _ _ I h => h.run pins s I⟩
theorem pw_w : PW X e (wW X e) := ⟨fun w pins s _ _ _ I h => h.run w pins s I⟩
theorem pa_w : PA X es (wA X es) := ⟨fun pos pins s _ _ _ I h => h.run pos pins s I⟩
theorem ps_w : PS X st (wS X st) := ⟨fun pins s _ _ _ I h => h.run pins s I⟩
theorem pss_w : PSs X sts (wSs X sts) := ⟨fun pins s _ _ _ I h => h.run pins s I⟩
theorem wE_of {t : TE} {σ : L2.St} {H : Hp} {Q : VK} (p : PE X e t) (h : t σ H Q) : wE X e σ H Q := .mk fun pins s I => p.run pins s σ H Q I h
theorem wT_of {t : TT} {σ : L2.St} {H : Hp} {Q : Bool → Hp → Prop} (p : PT X e t) (h : t σ H Q) : wT X e σ H Q := .mk fun pins s I => p.run pins s σ H Q I h
theorem wW_of {t : TT} {σ : L2.St} {H : Hp} {Q : Bool → Hp → Prop} (p : PW X e t) (h : t σ H Q) : wW X e σ H Q := .mk fun w pins s I => p.run w pins s σ H Q I h
theorem wA_of {t : TA} {σ : L2.St} {H : Hp} {Q : List V → Hp → Prop} (p : PA X es t) (h : t σ H Q) : wA X es σ H Q := .mk fun pos pins s I => p.run pos pins s σ H Q I h
theorem wS_of {t : TS} {σ : L2.St} {H : Hp} {D : Ends} (p : PS X st t) (h : t D σ H) : wS X st D σ H := .mk fun pins s I => p.run pins s σ H D I h
theorem wSs_of {t : TS} {σ : L2.St} {H : Hp} {D : Ends} (p : PSs X sts t) (h : t D σ H) : wSs X sts D σ H := .mk fun pins s I => p.run pins s σ H D I h
end
/-- operators, calls, methods, subscripts by values -/
structure wO (X : Cx) (f : Value → Value → Sem Value)  (x : V) (y : V) (H : Hp) (Q : VK) : Prop where
  run : ∀ pins s σ v u, Inv X pins σ H s → RelV x v → RelV y u → wpAny (model X.prog X.w) X.A (f v u) (EP X pins σ Q) X.xe s
theorem or_w {X : Cx} {f : Value → Value → Sem Value} : OpR X f (wO X f) := fun pins s σ _ _ _ v u _ I r1 r2 h => h.run pins s σ v u I r1 r2
theorem wO_of {X : Cx} {f : Value → Value → Sem Value} {r : R2} {x y : V} {H : Hp} {Q : VK} (p : OpR X f r) (h : r x y H Q) : wO X f x y H Q := .mk fun pins s σ v u I r1 r2 => p pins s σ H x y v u Q I r1 r2 h
structure wU (X : Cx) (f : Value → Sem Value)  (x : V) (H : Hp) (Q : VK) : Prop where
  run : ∀ pins s σ v, Inv X pins σ H s → RelV x v → wpAny (model X.prog X.w) X.A (f v) (EP X pins σ Q) X.xe s
theorem un_w {X : Cx} {f : Value → Sem Value} : UnR X f (wU X f) := fun pins s σ _ _ v _ I r1 h => h.run pins s σ v I r1
theorem wU_of {X : Cx} {f : Value → Sem Value} {r : V → Hp → VK → Prop} {x : V} {H : Hp} {Q : VK} (p : UnR X f r) (h : r x H Q) : wU X f x H Q := .mk fun pins s σ v I r1 => p pins s σ H x v Q I r1 h
structure wC (X : Cx) (f : Value)  (xs : List V) (H : Hp) (Q : VK) : Prop where
  run : ∀ pins s σ us, Inv X pins σ H s → Vals xs us → wpAny (model X.prog X.w) X.A (call f us) (EP X pins σ Q) X.xe s
theorem cr_w {X : Cx} {f : Value} : CallR X f (wC X f) := fun pins s σ _ _ us _ I r h => h.run pins s σ us I r
theorem wC_of {X : Cx} {f : Value} {r : List V → Hp → VK → Prop} {xs : List V} {H : Hp} {Q : VK} (p : CallR X f r) (h : r xs H Q) : wC X f xs H Q := .mk fun pins s σ us I r1 => p pins s σ H xs us Q I r1 h
structure wM (X : Cx) (id : String)  (x : V) (xs : List V) (H : Hp) (Q : VK) : Prop where
  run : ∀ pins s σ v us, Inv X pins σ H s → RelV x v → Vals xs us → wpAny (model X.prog X.w) X.A (call (.builtin id) (v :: us)) (EP X pins σ Q) X.xe s
theorem mt_w {X : Cx} {id : String} : MtR X id (wM X id) := fun pins s σ _ _ _ v us _ I r1 r h => h.run pins s σ v us I r1 r
theorem wM_of {X : Cx} {id : String} {r : V → List V → Hp → VK → Prop} {x : V} {xs : List V} {H : Hp} {Q : VK} (p : MtR X id r) (h : r x xs H Q) : wM X id x xs H Q := .mk fun pins s σ v us I r1 r2 => p pins s σ H x xs v us Q I r1 r2 h
structure wX (X : Cx)  (x : V) (y : V) (H : Hp) (Q : VK) : Prop where
  run : ∀ value slice pins s σ v u, Inv X pins σ H s → RelV x v → RelV y u → subscripted slice false v u = operate [v, u] (getItem v u) → wpAny (model X.prog X.w) X.A (subscriptTail value slice v u) (EP X pins σ Q) X.xe s
theorem ix_w {X : Cx} : IxR X (wX X) := fun value slice pins s σ _ _ _ v u _ I r1 r2 h hs => h.run value slice pins s σ v u I r1 r2 hs
theorem wX_of {X : Cx} {r : R2} {x y : V} {H : Hp} {Q : VK} (p : IxR X r) (h : r x y H Q) : wX X x y H Q := .mk fun value slice pins s σ v u I r1 r2 hs => p value slice pins s σ H x y v u Q I r1 r2 h hs

/-! ### the judgements -/
/-- where a body runs: its context; which classes change, the tables; what is wished of exceptions, in the reading's words and in those of the store -/
structure Sy where
  X : Cx
  MC : Addr → Prop
  T : List (Addr × Str)
  W : WX
  R : Value → Option Addr → Hp → Rho → Sto → Prop
abbrev Sy.G (y : Sy) : Gv := ⟨y.X.K, y.MC, y.T⟩
def Wk (y : Sy) (fp : List Addr) (H0 : Hp) : Prop := ∀ cls d σ H ρ η, y.R cls d H ρ η → Sl y.G fp H0 H σ ρ η → y.W cls d σ H
def Out (y : Sy) (fp : List Addr) (H0 : Hp) (σ : L2.St) (ρ : Rho) (H : Hp) (Q : D → Sto → Prop) (Qv : VK) : Prop :=
  ∀ d η' v H', Q d η' → Sl y.G fp H0 H' σ ρ η' → Kp y.G H H' → D.At y.G H' d v → Qv v H'
def OutB (y : Sy) (fp : List Addr) (H0 : Hp) (σ : L2.St) (ρ : Rho) (H : Hp) (Q : Bool → Sto → Prop) (Qb : Bool → Hp → Prop) : Prop :=
  ∀ b η' H', Q b η' → Sl y.G fp H0 H' σ ρ η' → Kp y.G H H' → Qb b H'
def OutA (y : Sy) (fp : List Addr) (H0 : Hp) (σ : L2.St) (ρ : Rho) (H : Hp) (Q : List D → Sto → Prop) (Qa : List V → Hp → Prop) : Prop :=
  ∀ ds η' vs H', Q ds η' → Sl y.G fp H0 H' σ ρ η' → Kp y.G H H' → D.Ats y.G H' ds vs → Qa vs H'
def EV (y : Sy) (e : Expr) (ρ : Rho) (η : Sto) (Q : D → Sto → Prop) : Prop :=
  ∀ fp H0 σ H, Sl y.G fp H0 H σ ρ η → Wk y fp H0 → ∀ Qv : VK, Out y fp H0 σ ρ H Q Qv → wE y.X e σ H Qv
def TV (y : Sy) (e : Expr) (ρ : Rho) (η : Sto) (Q : Bool → Sto → Prop) : Prop :=
  ∀ fp H0 σ H, Sl y.G fp H0 H σ ρ η → Wk y fp H0 → ∀ Qv : Bool → Hp → Prop, OutB y fp H0 σ ρ H Q Qv → wT y.X e σ H Qv
def WV (y : Sy) (e : Expr) (ρ : Rho) (η : Sto) (Q : Bool → Sto → Prop) : Prop :=
  ∀ fp H0 σ H, Sl y.G fp H0 H σ ρ η → Wk y fp H0 → ∀ Qv : Bool → Hp → Prop, OutB y fp H0 σ ρ H Q Qv → wW y.X e σ H Qv
def AV (y : Sy) (es : List Expr) (ρ : Rho) (η : Sto) (Q : List D → Sto → Prop) : Prop :=
  ∀ fp H0 σ H, Sl y.G fp H0 H σ ρ η → Wk y fp H0 → ∀ Qv : List V → Hp → Prop, OutA y fp H0 σ ρ H Q Qv → wA y.X es σ H Qv
def OpW (y : Sy) (f : Value → Value → Sem Value) (a b : D) (ρ : Rho) (η : Sto) (Q : D → Sto → Prop) : Prop :=
  ∀ fp H0 σ H, Sl y.G fp H0 H σ ρ η → Wk y fp H0 → ∀ Qv : VK, Out y fp H0 σ ρ H Q Qv → ∀ x x', D.At y.G H a x → D.At y.G H b x' → wO y.X f x x' H Qv
def UnW (y : Sy) (f : Value → Sem Value) (a : D) (ρ : Rho) (η : Sto) (Q : D → Sto → Prop) : Prop :=
  ∀ fp H0 σ H, Sl y.G fp H0 H σ ρ η → Wk y fp H0 → ∀ Qv : VK, Out y fp H0 σ ρ H Q Qv → ∀ x, D.At y.G H a x → wU y.X f x H Qv
def CallW (y : Sy) (f : Value) (ds : List D) (ρ : Rho) (η : Sto) (Q : D → Sto → Prop) : Prop :=
  ∀ fp H0 σ H, Sl y.G fp H0 H σ ρ η → Wk y fp H0 → ∀ Qv : VK, Out y fp H0 σ ρ H Q Qv → ∀ xs, D.Ats y.G H ds xs → wC y.X f xs H Qv
def MtW (y : Sy) (id : String) (d : D) (ds : List D) (ρ : Rho) (η : Sto) (Q : D → Sto → Prop) : Prop :=
  ∀ fp H0 σ H, Sl y.G fp H0 H σ ρ η → Wk y fp H0 → ∀ Qv : VK, Out y fp H0 σ ρ H Q Qv → ∀ x xs, D.At y.G H d x → D.Ats y.G H ds xs → wM y.X id x xs H Qv
def IxW (y : Sy) (a b : D) (ρ : Rho) (η : Sto) (Q : D → Sto → Prop) : Prop :=
  ∀ fp H0 σ H, Sl y.G fp H0 H σ ρ η → Wk y fp H0 → ∀ Qv : VK, Out y fp H0 σ ρ H Q Qv → ∀ x x', D.At y.G H a x → D.At y.G H b x' → wX y.X x x' H Qv

section
variable {y : Sy} {e a b c o : Expr} {es : List Expr} {ρ : Rho} {η : Sto} {Q : D → Sto → Prop} {pos p1 p2 : Pos}
theorem EV.mono {Q' : D → Sto → Prop} (h : EV y e ρ η Q) (q : ∀ d η', Q d η' → Q' d η') : EV y e ρ η Q' := fun fp H0 σ H S w Qv o => h fp H0 σ H S w Qv fun d η' v H' hq => o d η' v H' (q d η' hq)
/-- the store in another order, or less of it -/
theorem EV.sub {η' : Sto} (h : EV y e ρ η' Q) (hs : ∀ p ∈ η', p ∈ η) (nd : (η.map (·.1)).Nodup → (η'.map (·.1)).Nodup) : EV y e ρ η Q := fun fp H0 σ H S w Qv o =>
  h fp H0 σ H (S.sub hs (nd S.st.nd)) w Qv o
theorem ev_var {x : Str} {d : D} (i : Nat) (hd : ρ[i]? = some (some d)) (h : Q d η) (hN : y.X.N[i]? = some x := by rfl) (hv : Vis y.X.env.scope x := by first | exact Or.inl rfl | exact Or.inr (Or.inl rfl) | exact Or.inr (Or.inr rfl))
    (h1 : (x == ("__debug__" : Str)) = false := by decide) (h2 : (x == ("__classdict__" : Str)) = false := by decide) : EV y (.Name x pos) ρ η Q := fun fp H0 σ H S w Qv o => by
  obtain ⟨v, hv', at_⟩ := S.sl i d hd
  exact wE_of (pe_var hN hv h1 h2) ⟨v, hv', o d η v H h S Kp.refl at_⟩
theorem ev_int {i : Int} {j p} (h : Q (.int i) η) : EV y (.Constant (.int i) j p) ρ η Q := fun fp H0 σ H S w Qv o => wE_of pe_int (o _ η _ H h S Kp.refl (at_int.mpr rfl))
theorem ev_str {i : Str} {j p} (h : Q (.str i) η) : EV y (.Constant (.str i) j p) ρ η Q := fun fp H0 σ H S w Qv o => wE_of pe_str (o _ η _ H h S Kp.refl (at_str.mpr rfl))
theorem ev_bl {i : Bool} {j p} (h : Q (.bl i) η) : EV y (.Constant (.bool i) j p) ρ η Q := fun fp H0 σ H S w Qv o => wE_of pe_bl (o _ η _ H h S Kp.refl (at_bl.mpr rfl))
theorem ev_non {j p} (h : Q .non η) : EV y (.Constant .none j p) ρ η Q := fun fp H0 σ H S w Qv o => wE_of pe_non (o _ η _ H h S Kp.refl (at_non.mpr rfl))
/-- a module's constant -/
theorem ev_glob {x : Str} {v : V} {u : Value} {d : D} (hm : y.X.mg x = some u) (r : RelV v u) (hd : ∀ H, D.At y.G H d v) (h : Q d η) (hg : Gl y.X x := by rfl) (hb : (x == ("__debug__" : Str)) = false := by decide) : EV y (.Name x pos) ρ η Q :=
  fun fp H0 σ H S w Qv o => wE_of (pe_glob hg hm r hb) (o _ η _ H h S Kp.refl (hd H))
theorem ev_bin {op : Operator} (h : EV y a ρ η fun d1 η1 => EV y b ρ η1 fun d2 η2 => OpW y (binaryOp op) d1 d2 ρ η2 Q) : EV y (.BinOp a op b pos) ρ η Q := fun fp H0 σ H S w Qv o =>
  wE_of (pe_op or_w pe_w pe_w) (h fp H0 σ H S w _ fun d1 η1 x H1 h1 S1 k1 a1 => h1 fp H0 σ H1 S1 w _ fun d2 η2 x2 H2 h2 S2 k2 a2 =>
    h2 fp H0 σ H2 S2 w Qv (fun d η' v H' q S' k' a' => o d η' v H' q S' (k1.trans (k2.trans k')) a') x x2 (a1.kp k2) a2)
theorem ev_un {op : UnaryOp} (h : EV y a ρ η fun d1 η1 => UnW y (unaryOp op) d1 ρ η1 Q) : EV y (.UnaryOp op a pos) ρ η Q := fun fp H0 σ H S w Qv o =>
  wE_of (pe_un un_w pe_w) (h fp H0 σ H S w _ fun d1 η1 x H1 h1 S1 k1 a1 => h1 fp H0 σ H1 S1 w Qv (fun d η' v H' q S' k' a' => o d η' v H' q S' (k1.trans k') a') x a1)
theorem ev_cmp {op : CmpOp} (hm : behindInMarks op b = false) (h : EV y a ρ η fun d1 η1 => EV y b ρ η1 fun d2 η2 => OpW y (compareOp op) d1 d2 ρ η2 Q) : EV y (.Compare a [op] [b] pos) ρ η Q := fun fp H0 σ H S w Qv o =>
  wE_of (pe_cmpR or_w pe_w pe_w hm) (h fp H0 σ H S w _ fun d1 η1 x H1 h1 S1 k1 a1 => h1 fp H0 σ H1 S1 w _ fun d2 η2 x2 H2 h2 S2 k2 a2 =>
    h2 fp H0 σ H2 S2 w Qv (fun d η' v H' q S' k' a' => o d η' v H' q S' (k1.trans (k2.trans k')) a') x x2 (a1.kp k2) a2)
theorem ev_ix (hs : PlainIx b) (h : EV y a ρ η fun d1 η1 => EV y b ρ η1 fun d2 η2 => IxW y d1 d2 ρ η2 Q) : EV y (.Subscript a b pos) ρ η Q := fun fp H0 σ H S w Qv o =>
  wE_of (pe_ix ix_w pe_w pe_w hs) (h fp H0 σ H S w _ fun d1 η1 x H1 h1 S1 k1 a1 => h1 fp H0 σ H1 S1 w _ fun d2 η2 x2 H2 h2 S2 k2 a2 =>
    h2 fp H0 σ H2 S2 w Qv (fun d η' v H' q S' k' a' => o d η' v H' q S' (k1.trans (k2.trans k')) a') x x2 (a1.kp k2) a2)
theorem ev_ifExp {T : Bool → Sto → Prop} (ht : TV y c ρ η T) (h1 : ∀ η1, T true η1 → EV y a ρ η1 Q) (h2 : ∀ η1, T false η1 → EV y b ρ η1 Q) : EV y (.IfExp c a b pos) ρ η Q := fun fp H0 σ H S w Qv o =>
  wE_of (pe_ifExp pt_w pe_w pe_w) (ht fp H0 σ H S w _ fun k η1 H1 q S1 k1 => by
    cases k with
    | true => exact iteT (h1 η1 q fp H0 σ H1 S1 w Qv fun d η' v H' q S' k' a' => o d η' v H' q S' (k1.trans k') a')
    | false => exact iteF (h2 η1 q fp H0 σ H1 S1 w Qv fun d η' v H' q S' k' a' => o d η' v H' q S' (k1.trans k') a'))
/-! arguments -/
variable {Qa : List D → Sto → Prop}
theorem av_nil (h : Qa [] η) : AV y [] ρ η Qa := fun fp H0 σ H S w Qv o => wA_of pa_nil (o [] η [] H h S Kp.refl (ats_nil.mpr rfl))
theorem av_cons (h : EV y e ρ η fun d η1 => AV y es ρ η1 fun ds η2 => Qa (d :: ds) η2) (hs : starEach (e :: es) y.X.env = (false, eval e y.X.env) :: starEach es y.X.env := by exact star_cons (by rfl)) : AV y (e :: es) ρ η Qa := fun fp H0 σ H S w Qv o =>
  wA_of (pa_cons pe_w pa_w hs) (h fp H0 σ H S w _ fun d1 η1 x H1 h1 S1 k1 a1 => h1 fp H0 σ H1 S1 w _ fun ds η2 xs H2 h2 S2 k2 a2 =>
    o (d1 :: ds) η2 (x :: xs) H2 h2 S2 (k1.trans k2) (ats_cons.mpr ⟨x, xs, rfl, a1.kp k2, a2⟩))
/-! displays -/
theorem ev_tup {x1} (h : AV y es ρ η fun ds η1 => ds.length ≤ sizeLine ∧ Q (.tup ds) η1) : EV y (.Tuple es x1 pos) ρ η Q := fun fp H0 σ H S w Qv o =>
  wE_of (pe_tup pa_w) (h fp H0 σ H S w _ fun ds η1 xs H1 h1 S1 k1 a1 => ⟨by rw [a1.length]; exact h1.1, fun p np =>
    have g : Gr y.G H1 (upd H1 p (.tup xs)) := Gr.new np
    o (.tup ds) η1 (.ref p) _ h1.2 (S1.gr g) (k1.trans g.kp) (at_tup.mpr ⟨p, xs, rfl, SqT.of upd_same, a1.kp g.kp⟩)⟩)
/-- a new list stands in the store -/
theorem ev_lst (h : AV y es ρ η fun ds η1 => ds.length ≤ sizeLine ∧ ∀ p, Q (.ref p) ((p, .lst ds) :: η1)) : EV y (.List es pos) ρ η Q := fun fp H0 σ H S w Qv o =>
  wE_of (pe_lst pa_w) (h fp H0 σ H S w _ fun ds η1 xs H1 h1 S1 k1 a1 => ⟨by rw [a1.length]; exact h1.1, fun p np =>
    o (.ref p) ((p, .lst ds) :: η1) (.ref p) _ (h1.2 p) (S1.alloc np ⟨xs, rfl, a1⟩) (k1.trans (Gr.new np : Gr y.G H1 _).kp) (at_ref.mpr rfl)⟩)
/-! fields of immutable instances -/
theorem ev_fld {f : Str} (h : EV y e ρ η fun d η1 => ∃ C fs v, d = .ins C fs ∧ Cls y.X.K C ∧ NoAttr y.X.K C f ∧ fs.lookup f = some v ∧ Q v η1) (hb : attributeBase e f y.X.env (eval e y.X.env) = eval e y.X.env := by rfl) : EV y (.Attribute e f pos) ρ η Q :=
  fun fp H0 σ H S w Qv o => wE_of (pe_fld pe_w hb) (h fp H0 σ H S w _ fun d η1 x H1 h1 S1 k1 a1 => by
    obtain ⟨C, fs, v, rfl, hc, hn, hl, q⟩ := h1
    obtain ⟨p, dx, ws, rfl, hp, nm, af⟩ := at_ins.mp a1
    obtain ⟨z, hz, az⟩ : ∃ z, ws.lookup f = some z ∧ D.At y.G H1 v z := by
      clear hp a1
      induction fs generalizing ws with
      | nil => simp at hl
      | cons p fs ih =>
        obtain ⟨g, d⟩ := p
        obtain ⟨x, ys, rfl, a, r⟩ := afs_cons.mp af
        rw [List.lookup_cons] at hl ⊢
        split at hl
        · cases hl
          exact ⟨x, rfl, a⟩
        · exact ih hl ys r
    exact ⟨p, C, dx, ws, z, rfl, hp, hc, hn, hz, o v η1 z H1 q S1 k1 az⟩)
/-! built-in functions and classes by their names -/
theorem ev_callB {id : String} {x : Str} (hm : y.X.mg x = none) (hv : bootBuiltins x = some (.builtin id)) (h : AV y (e :: es) ρ η fun ds η1 => CallW y (.builtin id) ds ρ η1 Q) (hg : Gl y.X x := by rfl) (hn : x ≠ "__name__" := by decide) (hdb : (x == ("__debug__" : Str)) = false := by decide)
    (he : starEach (e :: es) y.X.env = (false, eval e y.X.env) :: starEach es y.X.env := by exact star_cons (by rfl)) (hpl : (backTo pos (starEach es y.X.env)).any (·.1) = false := by exact star_any (by rfl)) : EV y (.Call (.Name x p1) (e :: es) [] pos) ρ η Q := fun fp H0 σ H S w Qv o =>
  wE_of (pe_callB cr_w hg hm hv pa_w hn hdb he hpl) (h fp H0 σ H S w _ fun ds η1 xs H1 h1 S1 k1 a1 => h1 fp H0 σ H1 S1 w Qv (fun d η' v H' q S' k' a' => o d η' v H' q S' (k1.trans k') a') xs a1)
theorem ev_callT {T : String} {x : Str} (hm : y.X.mg x = none) (hv : bootBuiltins x = some (.type T)) (h : AV y (e :: es) ρ η fun ds η1 => CallW y (.type T) ds ρ η1 Q) (hg : Gl y.X x := by rfl) (hn : x ≠ "__name__" := by decide) (hdb : (x == ("__debug__" : Str)) = false := by decide)
    (he : starEach (e :: es) y.X.env = (false, eval e y.X.env) :: starEach es y.X.env := by exact star_cons (by rfl)) (hpl : (backTo pos (starEach es y.X.env)).any (·.1) = false := by exact star_any (by rfl)) : EV y (.Call (.Name x p1) (e :: es) [] pos) ρ η Q := fun fp H0 σ H S w Qv o =>
  wE_of (pe_callTy cr_w hg hm hv pa_w hn hdb he hpl) (h fp H0 σ H S w _ fun ds η1 xs H1 h1 S1 k1 a1 => h1 fp H0 σ H1 S1 w Qv (fun d η' v H' q S' k' a' => o d η' v H' q S' (k1.trans k') a') xs a1)
/-! methods of built-in types -/
def TyD (T : String) (η : Sto) : D → Prop
  | .str _ => T = "str"
  | .int _ => T = "int"
  | .ref a => (T = "list" ∧ ∃ ds, (a, .lst ds) ∈ η) ∨ (T = "dict" ∧ ∃ kvs, (a, .dic kvs) ∈ η)
  | _ => False
theorem TyD.tyV {T : String} {d : D} {G : Gv} {fp : List Addr} {H0 H : Hp} {σ : L2.St} {v : V} (h : TyD T η d) (S : Sl G fp H0 H σ ρ η) (a : D.At G H d v) : tyV G.K T v H := by
  cases d with
  | str _ => rw [at_str.mp a]; exact h
  | int _ => rw [at_int.mp a]; exact h
  | ref p =>
    rw [at_ref.mp a]
    rcases h with ⟨rfl, ds, h⟩ | ⟨rfl, ds, h⟩
    · obtain ⟨o, e, xs, rfl, _⟩ := S.st.at_ _ _ h
      exact .inl ⟨rfl, xs, SqL.of e⟩
    · obtain ⟨o, e, xs, rfl, _⟩ := S.st.at_ _ _ h
      exact .inr (.inr (.inl ⟨rfl, .inl ⟨xs, e⟩⟩))
  | _ => exact h.elim
theorem ev_bm {name : Str} {T id : String} (pa : PlainAttrs T) (slot : Slot T name id) (hty : typeOf (.builtin id) = pure (.type "method_descriptor")) (h : EV y o ρ η fun d η1 => TyD T η1 d ∧ AV y (e :: es) ρ η1 fun ds η2 => MtW y id d ds ρ η2 Q)
    (hbase : attributeBase o name y.X.env (eval o y.X.env) = eval o y.X.env := by rfl)
    (hfew : ((backTo pos (starEach (e :: es) y.X.env)).all (fun x => !x.1) && (backToKw pos (keywordEach [] y.X.env)).all (fun x => x.1.isSome)
      && decide ((e :: es).length + ([] : List Keyword).length + (if ([] : List Keyword).isEmpty then 0 else 1) < 30)) = true := by exact star_few (by rfl) (by decide))
    (hline : (p1.endLine == pos.line) = true := by rfl) (hs : starEach (e :: es) y.X.env = (false, eval e y.X.env) :: starEach es y.X.env := by exact star_cons (by rfl)) (hplain : (backTo pos (starEach es y.X.env)).any (·.1) = false := by exact star_any (by rfl)) :
    EV y (.Call (.Attribute o name p1) (e :: es) [] pos) ρ η Q := fun fp H0 σ H S w Qv ou =>
  wE_of (pe_bm pa slot hty mt_w pe_w pa_w hbase hfew hline hs hplain) (h fp H0 σ H S w _ fun d η1 x H1 h1 S1 k1 a1 => ⟨h1.1.tyV S1 a1, h1.2 fp H0 σ H1 S1 w _ fun ds η2 xs H2 h2 S2 k2 a2 =>
    h2 fp H0 σ H2 S2 w Qv (fun d η' v H' q S' k' a' => ou d η' v H' q S' (k1.trans (k2.trans k')) a') x xs (a1.kp k2) a2⟩)
theorem ev_bm0 {name : Str} {T id : String} (pa : PlainAttrs T) (slot : Slot T name id) (hty : typeOf (.builtin id) = pure (.type "method_descriptor")) (h : EV y o ρ η fun d η1 => TyD T η1 d ∧ MtW y id d [] ρ η1 Q)
    (hbase : attributeBase o name y.X.env (eval o y.X.env) = eval o y.X.env := by rfl) (hline : (p1.endLine == pos.line) = true := by rfl) : EV y (.Call (.Attribute o name p1) [] [] pos) ρ η Q := fun fp H0 σ H S w Qv ou =>
  wE_of (pe_bm0 pa slot hty mt_w pe_w hbase hline) (h fp H0 σ H S w _ fun d η1 x H1 h1 S1 k1 a1 => ⟨h1.1.tyV S1 a1, h1.2 fp H0 σ H1 S1 w Qv (fun d η' v H' q S' k' a' => ou d η' v H' q S' (k1.trans k') a') x [] a1 (ats_nil.mpr rfl)⟩)
/-! tests -/
variable {QB : Bool → Sto → Prop}
theorem TV.mono {Q' : Bool → Sto → Prop} (h : TV y e ρ η QB) (q : ∀ d η', QB d η' → Q' d η') : TV y e ρ η Q' := fun fp H0 σ H S w Qv o => h fp H0 σ H S w Qv fun d η' H' hq => o d η' H' (q d η' hq)
theorem tv_cmp {op : CmpOp} (hm : behindInMarks op b = false) (h : EV y a ρ η fun d1 η1 => EV y b ρ η1 fun d2 η2 => OpW y (compareOp op) d1 d2 ρ η2 fun d η3 => ∃ k, d = .bl k ∧ QB k η3) : TV y (.Compare a [op] [b] pos) ρ η QB := fun fp H0 σ H S w Qv o =>
  wT_of (pt_cmpR or_w pe_w pe_w hm) (h fp H0 σ H S w _ fun d1 η1 x H1 h1 S1 k1 a1 => h1 fp H0 σ H1 S1 w _ fun d2 η2 x2 H2 h2 S2 k2 a2 =>
    h2 fp H0 σ H2 S2 w _ (fun d η' v H' q S' k' a' => by
      obtain ⟨k, rfl, q⟩ := q
      exact ⟨k, at_bl.mp a', o k η' H' q S' (k1.trans (k2.trans k'))⟩) x x2 (a1.kp k2) a2)
/-- an expression that gives a truth value -/
theorem tv_val (h : EV y e ρ η fun d η1 => ∃ k, d = .bl k ∧ QB k η1) (he : ∀ whole, isTrue e y.X.env whole = (do let v ← whole; standAt e.pos; holding [v] (truthy v)) := by intro _; rfl) : TV y e ρ η QB := fun fp H0 σ H S w Qv o =>
  wT_of (pt_val pe_w he) (h fp H0 σ H S w _ fun d η1 x H1 h1 S1 k1 a1 => by
    obtain ⟨k, rfl, q⟩ := h1
    exact ⟨k, at_bl.mp a1, o k η1 H1 q S1 k1⟩)
theorem tv_not (h : TV y a ρ η fun k η1 => QB (!k) η1) : TV y (.UnaryOp .Not a pos) ρ η QB := fun fp H0 σ H S w Qv o =>
  wT_of (pt_not pt_w) (h fp H0 σ H S w _ fun k η1 H1 q S1 k1 => o (!k) η1 H1 q S1 k1)
theorem tv_w (h : WV y e ρ η QB) : TV y e ρ η QB := fun fp H0 σ H S w Qv o => wT_of (PW.pt pw_w) (h fp H0 σ H S w Qv o)
theorem wv_and1 (h : TV y a ρ η QB) : WV y (.BoolOp .And [a] pos) ρ η QB := fun fp H0 σ H S w Qv o => wW_of (pw_and1 pt_w) (h fp H0 σ H S w Qv o)
theorem wv_or1 (h : TV y a ρ η QB) : WV y (.BoolOp .Or [a] pos) ρ η QB := fun fp H0 σ H S w Qv o => wW_of (pw_or1 pt_w) (h fp H0 σ H S w Qv o)
theorem wv_and {T : Bool → Sto → Prop} (h : TV y a ρ η T) (h1 : ∀ η1, T true η1 → WV y (.BoolOp .And (b :: es) pos) ρ η1 QB) (h2 : ∀ η1, T false η1 → QB false η1) : WV y (.BoolOp .And (a :: b :: es) pos) ρ η QB := fun fp H0 σ H S w Qv o =>
  wW_of (pw_and pt_w pw_w) (h fp H0 σ H S w _ fun k η1 H1 q S1 k1 => by
    cases k with
    | true => exact iteT (h1 η1 q fp H0 σ H1 S1 w Qv fun d η' H' q S' k' => o d η' H' q S' (k1.trans k'))
    | false => exact iteF (o false η1 H1 (h2 η1 q) S1 k1))
theorem wv_or {T : Bool → Sto → Prop} (h : TV y a ρ η T) (h1 : ∀ η1, T false η1 → WV y (.BoolOp .Or (b :: es) pos) ρ η1 QB) (h2 : ∀ η1, T true η1 → QB true η1) : WV y (.BoolOp .Or (a :: b :: es) pos) ρ η QB := fun fp H0 σ H S w Qv o =>
  wW_of (pw_or pt_w pw_w) (h fp H0 σ H S w _ fun k η1 H1 q S1 k1 => by
    cases k with
    | true => exact iteT (o true η1 H1 (h2 η1 q) S1 k1)
    | false => exact iteF (h1 η1 q fp H0 σ H1 S1 w Qv fun d η' H' q S' k' => o d η' H' q S' (k1.trans k')))
/-! and, or, not as values of truth -/
theorem ev_one {op} (h : EV y a ρ η Q) : EV y (.BoolOp op [a] pos) ρ η Q := fun fp H0 σ H S w Qv o => wE_of (pe_one pe_w) (h fp H0 σ H S w Qv o)
theorem ev_and (h : EV y a ρ η fun d η1 => ∃ k, d = .bl k ∧ (k = true → EV y (.BoolOp .And (b :: es) pos) ρ η1 Q) ∧ (k = false → Q (.bl false) η1)) : EV y (.BoolOp .And (a :: b :: es) pos) ρ η Q := fun fp H0 σ H S w Qv o =>
  wE_of (pe_and pe_w pe_w) (h fp H0 σ H S w _ fun d η1 x H1 q S1 k1 a1 => by
    obtain ⟨k, rfl, q1, q2⟩ := q
    refine ⟨k, at_bl.mp a1, ?_⟩
    cases k with
    | true => exact iteT (q1 rfl fp H0 σ H1 S1 w Qv fun d η' v H' q S' k' => o d η' v H' q S' (k1.trans k'))
    | false => exact iteF (o _ η1 _ H1 (q2 rfl) S1 k1 (at_bl.mpr rfl)))
theorem ev_or (h : EV y a ρ η fun d η1 => ∃ k, d = .bl k ∧ (k = false → EV y (.BoolOp .Or (b :: es) pos) ρ η1 Q) ∧ (k = true → Q (.bl true) η1)) : EV y (.BoolOp .Or (a :: b :: es) pos) ρ η Q := fun fp H0 σ H S w Qv o =>
  wE_of (pe_or pe_w pe_w) (h fp H0 σ H S w _ fun d η1 x H1 q S1 k1 a1 => by
    obtain ⟨k, rfl, q1, q2⟩ := q
    refine ⟨k, at_bl.mp a1, ?_⟩
    cases k with
    | true => exact iteT (o _ η1 _ H1 (q2 rfl) S1 k1 (at_bl.mpr rfl))
    | false => exact iteF (q1 rfl fp H0 σ H1 S1 w Qv fun d η' v H' q S' k' => o d η' v H' q S' (k1.trans k')))
theorem ev_not (h : EV y a ρ η fun d η1 => ∃ k, d = .bl k ∧ Q (.bl (!k)) η1) : EV y (.UnaryOp .Not a pos) ρ η Q := fun fp H0 σ H S w Qv o =>
  wE_of (pe_not pe_w) (h fp H0 σ H S w _ fun d η1 x H1 q S1 k1 a1 => by
    obtain ⟨k, rfl, q1⟩ := q
    exact ⟨k, at_bl.mp a1, o _ η1 _ H1 q1 S1 k1 (at_bl.mpr rfl)⟩)
end

/-! ### a def's promise over the store -/
structure FS (α : Type) where
  args : α → List D
  st : α → Sto
  ret : α → D → Sto → Prop
  exc : α → Value → Option Addr → Hp → Sto → Prop := fun _ _ _ _ _ => False
def spOf {α : Type} (G : Gv) (F : FS α) : Sp := fun vs H Q E => ∃ a : α, D.Ats G H (F.args a) vs ∧ Tabs G.T H ∧ (∀ p m, (p, m) ∈ F.st a → Held G H p m) ∧ ((F.st a).map (·.1)).Nodup ∧
  (∀ d η' v H', F.ret a d η' → Fr G ((F.st a).map (·.1)) H H' → Tabs G.T H' → Ht G ((F.st a).map (·.1)) H H' η' → D.At G H' d v → Q v H') ∧
  ∀ cls d H' η', F.exc a cls d H' η' → Fr G ((F.st a).map (·.1)) H H' → Tabs G.T H' → Ht G ((F.st a).map (·.1)) H H' η' → E cls d H'
section
variable {G : Gv} {fp : List Addr} {H0 H H' : Hp} {σ : L2.St} {ρ : Rho} {η η' ηr : Sto}
/-- behind a callee that got a part of the store -/
theorem Sl.after (S : Sl G fp H0 H σ ρ (η ++ ηr)) (f : Fr G (η.map (·.1)) H H') (t : Tabs G.T H') (h : Ht G (η.map (·.1)) H H' η') : Sl G fp H0 H' σ ρ (η' ++ ηr) := by
  have nd := S.st.nd
  rw [List.map_append, List.nodup_append] at nd
  obtain ⟨_, n2, n3⟩ := nd
  refine ⟨⟨fun b o e n hb => ?_, fun b o e n => let ⟨o1, e1, n1⟩ := S.fr.stay b o e n; f.stay b o1 e1 n1, S.fr.imm.trans f.imm⟩, t, S.len, fun i d e => ?_, ⟨fun a m q => ?_, fun a m q => ?_, ?_⟩⟩
  · refine f.keep b o (S.fr.keep b o e n hb) n fun z => ?_
    obtain ⟨⟨c, m⟩, hm, ec⟩ := List.mem_map.mp z
    have ec' : c = b := ec
    subst ec'
    rcases S.st.own c m (List.mem_append_left _ hm) with z | z
    · exact hb z
    · obtain ⟨ps, z⟩ := z o e
      exact n ps z
  · obtain ⟨v, e1, e2⟩ := S.sl i d e
    exact ⟨v, e1, e2.kp f.imm⟩
  · rcases List.mem_append.mp q with q | q
    · exact h.at_ a m q
    · obtain ⟨o, e, r⟩ := S.st.at_ a m (List.mem_append_right _ q)
      exact ⟨o, f.keep a o e r.ntbl fun z => n3 a z a (List.mem_map.mpr ⟨_, q, rfl⟩) rfl, r.kp f.imm⟩
  · rcases List.mem_append.mp q with q | q
    · rcases h.own a m q with z | z
      · obtain ⟨⟨c, m'⟩, hm, ec⟩ := List.mem_map.mp z
        have ec' : c = a := ec
        subst ec'
        exact S.st.own c m' (List.mem_append_left _ hm)
      · exact .inr (S.fr.vac z)
    · exact S.st.own a m (List.mem_append_right _ q)
  · rw [List.map_append, List.nodup_append]
    refine ⟨h.nd, n2, fun a ha b hb e => ?_⟩
    subst e
    obtain ⟨⟨c, m⟩, hm, ec⟩ := List.mem_map.mp ha
    have ec' : c = a := ec
    subst ec'
    rcases h.own c m hm with z | z
    · exact n3 c z c hb rfl
    · obtain ⟨⟨c2, m2⟩, hm2, ec2⟩ := List.mem_map.mp hb
      have ec' : c2 = c := ec2
      subst ec'
      obtain ⟨o, e, r⟩ := S.st.at_ c2 m2 (List.mem_append_right _ hm2)
      obtain ⟨ps, z⟩ := z o e
      exact r.ntbl ps z
/-- what is asked behind a call -/
structure AfterCall {α : Type} (y : Sy) (F : FS α) (ds : List D) (ρ : Rho) (η : Sto) (Q : D → Sto → Prop) (a : α) (ηr : Sto) : Prop where
  args : ds = F.args a
  st : η.Perm (F.st a ++ ηr)
  ret : ∀ d η', F.ret a d η' → Q d (η' ++ ηr)
  exc : ∀ cls d H η', F.exc a cls d H η' → y.R cls d H ρ (η' ++ ηr)
theorem AfterCall.sp {α : Type} {y : Sy} {F : FS α} {ds : List D} {Q : D → Sto → Prop} {a : α} {vs : List V} {Qv : VK} {W : WX} (c : AfterCall y F ds ρ η Q a ηr) (S : Sl y.G fp H0 H σ ρ η) (w : Wk y fp H0) (av : D.Ats y.G H ds vs) (o : Out y fp H0 σ ρ H Q Qv)
    (hW : ∀ cls d H, y.W cls d σ H → W cls d σ H) : spOf y.G F vs H Qv (fun cls d H => W cls d σ H) := by
  have S' := S.perm c.st
  have nd := S'.st.nd
  rw [List.map_append, List.nodup_append] at nd
  refine ⟨a, by rw [← c.args]; exact av, S.tb, fun p m hp => S'.st.at_ p m (List.mem_append_left _ hp), nd.1, fun d η' v H' hr f t ht at_ => ?_, fun cls d H' η' hr f t ht => hW _ _ _ (w cls d σ H' ρ _ (c.exc cls d H' η' hr) (S'.after f t ht))⟩
  exact o d (η' ++ ηr) v H' (c.ret d η' hr) (S'.after f t ht) f.imm at_
end
section
variable {y : Sy} {e : Expr} {es : List Expr} {ρ : Rho} {η : Sto} {Q : D → Sto → Prop} {pos p1 : Pos} {α : Type} {F : FS α} {CX : CXT} {k : Nat} {f C : Addr} {fd : FuncData} {ps : List Str} {ds : List Value} {dvs : List V} {dds : List D} {x m : Str}
/-- a def of the module is called; dds: what its defaults are -/
theorem ev_call (K : FnOk y.X.prog y.X.w y.X.K y.X.mg y.X.base CX k f fd ps (spOf y.G F)) (hr : Room k y.X.A) (hm : y.X.mg x = some (.ref f)) (hk : PySem.W.keepIn y.X.K (.ref f) = true) (hb : Binds y.X.K fd ps ds) (hd : Vals dvs ds)
    (hda : ∀ H, D.Ats y.G H dds dvs) (hx : ∀ σ, Passes CX y.X (fun cls d H => y.W cls d σ H)) (h : AV y (e :: es) ρ η fun vs η1 => ∃ a ηr, AfterCall y F (vs ++ dds) ρ η1 Q a ηr) (hg : Gl y.X x := by rfl)
    (hdb : (x == ("__debug__" : Str)) = false := by decide) (he : starEach (e :: es) y.X.env = (false, eval e y.X.env) :: starEach es y.X.env := by exact star_cons (by rfl)) (hpl : (backTo pos (starEach es y.X.env)).any (·.1) = false := by exact star_any (by rfl)) :
    EV y (.Call (.Name x p1) (e :: es) [] pos) ρ η Q := fun fp H0 σ H S w Qv o =>
  wE_of (pe_call K hr hg hm hk hb hd (hx σ) pa_w hdb he hpl) (h fp H0 σ H S w _ fun vs η1 xs H1 h1 S1 k1 a1 => by
    obtain ⟨a, ηr, c⟩ := h1
    exact c.sp (W := y.W) S1 w (a1.append (hda H1)) (fun d η' v H' q S' k' a' => o d η' v H' q S' (k1.trans k') a') fun _ _ _ z => z)
theorem ev_call0 (K : FnOk y.X.prog y.X.w y.X.K y.X.mg y.X.base CX k f fd ps (spOf y.G F)) (hr : Room k y.X.A) (hm : y.X.mg x = some (.ref f)) (hk : PySem.W.keepIn y.X.K (.ref f) = true) (hb : Binds y.X.K fd ps ds) (hd : Vals dvs ds)
    (hda : ∀ H, D.Ats y.G H dds dvs) (hx : ∀ σ, Passes CX y.X (fun cls d H => y.W cls d σ H)) (h : ∃ a ηr, AfterCall y F dds ρ η Q a ηr) (hg : Gl y.X x := by rfl)
    (hdb : (x == ("__debug__" : Str)) = false := by decide) : EV y (.Call (.Name x p1) [] [] pos) ρ η Q := fun fp H0 σ H S w Qv o =>
  wE_of (pe_call0 K hr hg hm hk hb hd (hx σ) hdb) (by
    obtain ⟨a, ηr, c⟩ := h
    exact c.sp (W := y.W) S w (hda H) o fun _ _ _ z => z)
end
end Sx

/-! S3: statements, loops, comprehensions. -/
namespace Sx
open PySem PySem.Spec PyProof.Rows L2
open LamX (Tabs TabS)

structure En where
  nx : Rho → Sto → Prop
  rt : D → Sto → Prop
  bk : Rho → Sto → Prop := fun _ _ => False
  ct : Rho → Sto → Prop := fun _ _ => False
structure OutS (y : Sy) (fp : List Addr) (H0 H : Hp) (N : En) (D' : Ends) : Prop where
  nx : ∀ ρ η σ H', N.nx ρ η → Sl y.G fp H0 H' σ ρ η → Kp y.G H H' → D'.nx σ H'
  rt : ∀ d ρ η v σ H', N.rt d η → Sl y.G fp H0 H' σ ρ η → Kp y.G H H' → D.At y.G H' d v → D'.rt v H'
  bk : ∀ ρ η σ H', N.bk ρ η → Sl y.G fp H0 H' σ ρ η → Kp y.G H H' → D'.bk σ H'
  ct : ∀ ρ η σ H', N.ct ρ η → Sl y.G fp H0 H' σ ρ η → Kp y.G H H' → D'.ct σ H'
def SV (y : Sy) (st : Stmt) (ρ : Rho) (η : Sto) (N : En) : Prop :=
  ∀ fp H0 σ H, Sl y.G fp H0 H σ ρ η → Wk y fp H0 → ∀ D', OutS y fp H0 H N D' → wS y.X st D' σ H
def SVs (y : Sy) (st : List Stmt) (ρ : Rho) (η : Sto) (N : En) : Prop :=
  ∀ fp H0 σ H, Sl y.G fp H0 H σ ρ η → Wk y fp H0 → ∀ D', OutS y fp H0 H N D' → wSs y.X st D' σ H
theorem OutS.later {y : Sy} {fp : List Addr} {H0 H H1 : Hp} {N : En} {D' : Ends} (o : OutS y fp H0 H N D') (k : Kp y.G H H1) : OutS y fp H0 H1 N D' :=
  ⟨fun ρ η σ H' n S k' => o.nx ρ η σ H' n S (k.trans k'), fun d ρ η v σ H' n S k' => o.rt d ρ η v σ H' n S (k.trans k'), fun ρ η σ H' n S k' => o.bk ρ η σ H' n S (k.trans k'), fun ρ η σ H' n S k' => o.ct ρ η σ H' n S (k.trans k')⟩

/-! ### targets: a name, a flat tuple of names -/
inductive Tg where
  | nm (i : Nat) | tp (is : List Nat)
def gNs : List Nat → TGs
  | [] => gNil
  | i :: is => gCons (gName i) (gNs is)
def tgR (K : PySem.W.Frag) : Tg → TG
  | .nm i => gName i
  | .tp is => gTup K is.length (gNs is)
def setNs : List Nat → List D → Rho → Rho
  | i :: is, d :: ds, ρ => setNs is ds (ρ.set i (some d))
  | _, _, ρ => ρ
def Tg.set : Tg → D → Rho → Rho
  | .nm i, d, ρ => ρ.set i (some d)
  | .tp is, .tup ds, ρ => setNs is ds ρ
  | _, _, ρ => ρ
def Tg.ok : Tg → D → Prop
  | .nm _, _ => True
  | .tp is, .tup ds => ds.length = is.length
  | _, _ => False
def Tg.ns : Tg → List Nat
  | .nm i => [i]
  | .tp is => is
theorem wipe_set {σ : L2.St} {i : Nat} {x : Option V} : ∀ {vs : List Nat}, i ∈ vs → wipe (σ.set i x) vs = wipe σ vs
  | v :: vs, h => by
    unfold wipe
    by_cases hv : i ∈ vs
    · rw [wipe_set hv]
    · have e : i = v := by
        rcases List.mem_cons.mp h with z | z
        · exact z
        · exact absurd z hv
      subst e
      have : ∀ (ws : List Nat) (τ : L2.St), (wipe (τ.set i x) ws).set i none = (wipe τ ws).set i none := by
        intro ws
        induction ws with
        | nil => intro τ; show (τ.set i x).set i none = τ.set i none; rw [List.set_set]
        | cons w ws ih =>
          intro τ
          show ((wipe (τ.set i x) ws).set w none).set i none = ((wipe τ ws).set w none).set i none
          by_cases hw : w = i
          · subst hw
            rw [List.set_set, List.set_set, ih]
          · rw [List.set_comm _ _ hw, List.set_comm _ _ hw, ih]
      exact this vs σ
section
variable {G : Gv} {fp : List Addr} {H0 H : Hp} {K : PySem.W.Frag}
theorem setNs_len : ∀ (is : List Nat) (ds : List D) (ρ : Rho), (setNs is ds ρ).length = ρ.length
  | [], _, _ => by unfold setNs; rfl
  | i :: is, [], _ => by unfold setNs; rfl
  | i :: is, d :: ds, ρ => by
    unfold setNs
    rw [setNs_len is ds, List.length_set]
theorem gNs_run {ws : List Nat} : ∀ {is : List Nat} {ds : List D} {xs : List V} {σ : L2.St} {ρ : Rho} {η : Sto} {Q : L2.St → Hp → Prop}, Sl G fp H0 H σ ρ η → D.Ats G H ds xs → ds.length = is.length → (∀ i ∈ is, i ∈ ws) →
    (∀ σ', Sl G fp H0 H σ' (setNs is ds ρ) η → wipe σ' ws = wipe σ ws → Q σ' H) → gNs is xs σ H Q
  | [], [], xs, σ, ρ, η, Q, S, a, _, _, q => ⟨ats_nil.mp a, q σ S rfl⟩
  | i :: is, d :: ds, xs, σ, ρ, η, Q, S, a, hl, hw, q => by
    obtain ⟨x, zs, rfl, a1, a2⟩ := ats_cons.mp a
    refine ⟨x, zs, rfl, gNs_run (is := is) (S.set (i := i) a1) a2 (by simpa using hl) (fun j hj => hw j (List.mem_cons_of_mem _ hj)) fun σ' S' hw' => q σ' S' ?_⟩
    rw [hw', wipe_set (hw i List.mem_cons_self)]
  | [], d :: ds, _, _, _, _, _, _, _, hl, _, _ => by simp at hl
  | i :: is, [], _, _, _, _, _, _, _, hl, _, _ => by simp at hl
theorem tg_run {t : Tg} {d : D} {v : V} {σ : L2.St} {ρ : Rho} {η : Sto} {Q : L2.St → Hp → Prop} (S : Sl G fp H0 H σ ρ η) (a : D.At G H d v) (ok : t.ok d) (q : ∀ σ', Sl G fp H0 H σ' (t.set d ρ) η → wipe σ' t.ns = wipe σ t.ns → Q σ' H) : tgR G.K t v σ H Q := by
  cases t with
  | nm i => exact q _ (S.set a) (wipe_set (by simp [Tg.ns]))
  | tp is =>
    cases d with
    | tup ds =>
      obtain ⟨p, xs, rfl, hs, as⟩ := at_tup.mp a
      exact ⟨p, xs, rfl, hs, by rw [as.length]; exact ok, gNs_run S as ok (fun _ h => h) q⟩
    | _ => exact ok.elim
end

section
variable {y : Sy} {e c o i : Expr} {st : Stmt} {sts body orelse : List Stmt} {ρ : Rho} {η : Sto} {N : En} {pos p1 p2 : Pos}
theorem svs_nil (h : N.nx ρ η) : SVs y [] ρ η N := fun fp H0 σ H S w D' o => wSs_of pss_nil (o.nx ρ η σ H h S Kp.refl)
theorem svs_cons (h : SV y st ρ η { N with nx := fun ρ' η' => SVs y sts ρ' η' N }) : SVs y (st :: sts) ρ η N := fun fp H0 σ H S w D' o =>
  wSs_of (pss_cons ps_w pss_w) (h fp H0 σ H S w _ ⟨fun ρ' η' σ' H' n S' k => n fp H0 σ' H' S' w D' (o.later k), o.rt, o.bk, o.ct⟩)
theorem SVs.mono {N' : En} (h : SVs y sts ρ η N) (h1 : ∀ ρ η, N.nx ρ η → N'.nx ρ η) (h2 : ∀ d η, N.rt d η → N'.rt d η) (h3 : ∀ ρ η, N.bk ρ η → N'.bk ρ η) (h4 : ∀ ρ η, N.ct ρ η → N'.ct ρ η) : SVs y sts ρ η N' := fun fp H0 σ H S w D' o =>
  h fp H0 σ H S w D' ⟨fun ρ η σ' H' n => o.nx ρ η σ' H' (h1 _ _ n), fun d ρ η v σ' H' n => o.rt d ρ η v σ' H' (h2 _ _ n), fun ρ η σ' H' n => o.bk ρ η σ' H' (h3 _ _ n), fun ρ η σ' H' n => o.ct ρ η σ' H' (h4 _ _ n)⟩
/-- the store in another order, or less of it -/
theorem SVs.sub {η' : Sto} (h : SVs y sts ρ η' N) (hs : ∀ p ∈ η', p ∈ η) (nd : (η.map (·.1)).Nodup → (η'.map (·.1)).Nodup) : SVs y sts ρ η N := fun fp H0 σ H S w D' o =>
  h fp H0 σ H (S.sub hs (nd S.st.nd)) w D' o
/-- forget slots -/
theorem SVs.forget {ρ' : Rho} (h : SVs y sts ρ' η N) (hl : ρ'.length = ρ.length) (hs : ∀ (i : Nat) d, ρ'[i]? = some (some d) → ρ[i]? = some (some d)) : SVs y sts ρ η N := fun fp H0 σ H S w D' o =>
  h fp H0 σ H ⟨S.fr, S.tb, S.len.trans hl.symm, fun i d e => S.sl i d (hs i d e), S.st⟩ w D' o
theorem sv_asg {x : Str} (k : Nat) (h : EV y e ρ η fun d η1 => N.nx (ρ.set k (some d)) η1) (hN : y.X.N.Nodup := by first | assumption | decide) (hi : y.X.N[k]? = some x := by rfl) (hx : Loc y.X.env.scope x := by first | exact Or.inl rfl | exact Or.inr rfl) (hs : swapsWith e (some (.Name x p1)) pos.line y.X.env = pure false := by rfl)
    (hf : y.X.fn x = true ∨ y.X.env.scope.names.lookup x = some .local := by first | exact .inl rfl | exact .inr rfl | assumption) : SV y (.Assign [.Name x p1] e pos) ρ η N := fun fp H0 σ H S w D' o =>
  wS_of (ps_set hN hi hx pe_w hs hf) (h fp H0 σ H S w _ fun d η1 v H1 q S1 k1 a1 => o.nx _ η1 _ H1 q (S1.set a1) k1)
theorem sv_asgT {tg : Expr} (t : Tg) (hg : PG y.X tg (tgR y.X.K t)) (h : EV y e ρ η fun d η1 => t.ok d ∧ N.nx (t.set d ρ) η1) (hs : swapsWithSole [tg] e pos.line y.X.env = pure false := by rfl) (hw : swappedStores [tg] e y.X.env = pure none := by rfl)
    (h1 : (assignEach [tg] y.X.env).map (·.2) = [assign tg y.X.env] := by rfl) : SV y (.Assign [tg] e pos) ρ η N := fun fp H0 σ H S w D' o =>
  wS_of (ps_asg pe_w hg hs hw h1) (h fp H0 σ H S w _ fun d η1 v H1 q S1 k1 a1 => tg_run (G := y.G) S1 a1 q.1 fun σ' S' _ => o.nx _ η1 _ H1 q.2 S' k1)
theorem sv_ret (h : EV y e ρ η N.rt) : SV y (.Return (some e) pos) ρ η N := fun fp H0 σ H S w D' o => wS_of (ps_ret pe_w) (h fp H0 σ H S w _ fun d η1 v H1 q S1 k1 a1 => o.rt d ρ η1 v σ H1 q S1 k1 a1)
theorem sv_retN (h : N.rt .non η) : SV y (.Return none pos) ρ η N := fun fp H0 σ H S w D' o => wS_of ps_retN (o.rt .non ρ η _ σ H h S Kp.refl (at_non.mpr rfl))
theorem sv_expr (h : EV y e ρ η fun _ η1 => N.nx ρ η1) (hs : swapsWith e none pos.line y.X.env = pure false := by rfl) : SV y (.Expr e pos) ρ η N := fun fp H0 σ H S w D' o =>
  wS_of (ps_expr pe_w hs) (h fp H0 σ H S w _ fun d η1 v H1 q S1 k1 a1 => o.nx ρ η1 σ H1 q S1 k1)
theorem sv_pass (h : N.nx ρ η) : SV y (.Pass pos) ρ η N := fun fp H0 σ H S w D' o => wS_of ps_pass (o.nx ρ η σ H h S Kp.refl)
theorem sv_break (h : N.bk ρ η) : SV y (.Break pos) ρ η N := fun fp H0 σ H S w D' o => wS_of ps_break (o.bk ρ η σ H h S Kp.refl)
theorem sv_continue (h : N.ct ρ η) : SV y (.Continue pos) ρ η N := fun fp H0 σ H S w D' o => wS_of ps_continue (o.ct ρ η σ H h S Kp.refl)
theorem sv_if {T : Bool → Sto → Prop} (ht : TV y c ρ η T) (h1 : ∀ η1, T true η1 → SVs y body ρ η1 N) (h2 : ∀ η1, T false η1 → SVs y orelse ρ η1 N) : SV y (.If c body orelse pos) ρ η N := fun fp H0 σ H S w D' o =>
  wS_of (ps_if pt_w pss_w pss_w) (ht fp H0 σ H S w _ fun k η1 H1 q S1 k1 => by
    cases k with
    | true => exact iteT (h1 η1 q fp H0 σ H1 S1 w D' (o.later k1))
    | false => exact iteF (h2 η1 q fp H0 σ H1 S1 w D' (o.later k1)))
/-! o[i] = e -/
structure wSet (X : Cx)  (o : V) (i : V) (v : V) (H : Hp) (Q : Hp → Prop) : Prop where
  run : ∀ pins s σ ov iv u, Inv X pins σ H s → RelV o ov → RelV i iv → RelV v u → wpAny (model X.prog X.w) X.A (setItem ov iv u) (fun _ s' => ∃ H', Inv X pins σ H' s' ∧ Q H') X.xe s
theorem set_w {X : Cx} : PSet X (wSet X) := fun pins s σ _ _ _ _ ov iv u _ I r1 r2 r3 h => h.run pins s σ ov iv u I r1 r2 r3
theorem wSet_of {X : Cx} {t : TSet} {o i v : V} {H : Hp} {Q : Hp → Prop} (p : PSet X t) (h : t o i v H Q) : wSet X o i v H Q := .mk fun pins s σ ov iv u I r1 r2 r3 => p pins s σ H o i v ov iv u Q I r1 r2 r3 h
def SetW (y : Sy) (d i v : D) (ρ : Rho) (η : Sto) (Q : Sto → Prop) : Prop :=
  ∀ fp H0 σ H, Sl y.G fp H0 H σ ρ η → ∀ Qv : Hp → Prop, (∀ η' H', Q η' → Sl y.G fp H0 H' σ ρ η' → Kp y.G H H' → Qv H') → ∀ x x' z, D.At y.G H d x → D.At y.G H i x' → D.At y.G H v z → wSet y.X x x' z H Qv
theorem sv_setItem (h : EV y e ρ η fun v η1 => EV y o ρ η1 fun d η2 => EV y i ρ η2 fun k η3 => SetW y d k v ρ η3 fun η4 => N.nx ρ η4)
    (ha : ∀ v, assign (.Subscript o i p1) y.X.env v = (do
      let ov ← holding [v] (eval o y.X.env)
      let iv ← holding [v, ov] (eval i y.X.env)
      standAt p1
      holding [v, ov, iv] (setItem ov iv v)
      release [v, ov, iv] []) := by intro _; rfl) (hs : swapsWithSole [.Subscript o i p1] e pos.line y.X.env = pure false := by rfl) (hw : swappedStores [.Subscript o i p1] e y.X.env = pure none := by rfl)
    (h1 : (assignEach [.Subscript o i p1] y.X.env).map (·.2) = [assign (.Subscript o i p1) y.X.env] := by rfl) : SV y (.Assign [.Subscript o i p1] e pos) ρ η N := fun fp H0 σ H S w D' ou =>
  wS_of (ps_asg pe_w (pg_sub pe_w pe_w set_w ha) hs hw h1) (h fp H0 σ H S w _ fun d1 η1 v H1 q1 S1 k1 a1 => q1 fp H0 σ H1 S1 w _ fun d2 η2 x H2 q2 S2 k2 a2 => q2 fp H0 σ H2 S2 w _ fun d3 η3 x' H3 q3 S3 k3 a3 =>
    q3 fp H0 σ H3 S3 _ (fun η4 H4 q4 S4 k4 => ou.nx ρ η4 σ H4 q4 S4 (k1.trans (k2.trans (k3.trans k4)))) x x' v (a2.kp k3) a3 ((a1.kp k2).kp k3))
/-! loops -/
theorem sv_for {iter tg : Expr} (t : Tg) (hp : PassesOwn (model y.X.prog y.X.w) y.X.A y.X.env y.X.xe) (hc : y.X.calm = true) (hg : PG y.X tg (tgR y.X.K t))
    (h : EV y iter ρ η fun d η1 => ∃ (a : Addr) (ds : List D) (I : Nat → Rho → Sto → Prop), d = .ref a ∧ (∀ i ρ' η', I i ρ' η' → (a, .lst ds) ∈ η') ∧ I 0 ρ η1 ∧
      (∀ i d ρ' η', ds[i]? = some d → I i ρ' η' → t.ok d ∧ SVs y body (t.set d ρ') η' { N with nx := I (i + 1), ct := I (i + 1), bk := N.nx }) ∧ ∀ ρ' η', I ds.length ρ' η' → N.nx ρ' η')  (hfs : ∀ x, foldedSetIterable iter y.X.env x = pure x := by intro _; rfl) :
    SV y (.For tg iter body [] pos) ρ η N := fun fp H0 σ H S w D' o =>
  wS_of (ps_for hp hc (pi_list pe_w) hg pss_w hfs) (h fp H0 σ H S w _ fun d η1 v H1 q S1 k1 a1 => by
    obtain ⟨a, ds, I, rfl, hI, h0, hs, hd⟩ := q
    obtain ⟨ob, eo, xs0, e0, as0⟩ := S1.st.at_ _ _ (hI 0 ρ η1 h0)
    subst e0
    have hlen : xs0.length = ds.length := as0.length
    refine ⟨a, at_ref.mp a1, ⟨xs0, SqL.of eo⟩, ?_⟩
    refine ⟨fun i m σ' H' => m = ds.length - i ∧ i ≤ ds.length ∧ ∃ ρ' η', I i ρ' η' ∧ Sl y.G fp H0 H' σ' ρ' η' ∧ Kp y.G H1 H', ⟨ds.length, by simp, Nat.zero_le _, ρ, η1, h0, S1, Kp.refl⟩, ?_⟩
    rintro i m σ' H' ⟨rfl, hi, ρ', η', hI', S', k'⟩
    obtain ⟨ob', eo', xs, e', as⟩ := S'.st.at_ _ _ (hI i ρ' η' hI')
    subst e'
    have sq : SqL y.X.K H' a xs := SqL.of eo'
    by_cases hlt : i < ds.length
    · obtain ⟨x, ex, ax⟩ := as.get (List.getElem?_eq_getElem hlt)
      obtain ⟨h1, h2⟩ := hs i ds[i] ρ' η' (List.getElem?_eq_getElem hlt) hI'
      refine .inr ⟨⟨xs, x, sq, ex⟩, fun σ2 H2 => ∃ ρ2 η2, I (i + 1) ρ2 η2 ∧ Sl y.G fp H0 H2 σ2 ρ2 η2 ∧ Kp y.G H1 H2, fun σ2 H2 ⟨ρ2, η2, p1, p2, p3⟩ => ⟨ds.length - (i + 1), by omega, rfl, hlt, ρ2, η2, p1, p2, p3⟩, fun z H'' yy => ?_⟩
      obtain ⟨rfl, yy⟩ := yy
      have ez : z = x := Option.some.inj ((yy xs sq).symm.trans ex)
      subst ez
      refine tg_run (G := y.G) S' ax h1 fun σ2 S2 _ => h2 fp H0 σ2 _ S2 w _ ⟨fun ρ3 η3 σ3 H3 n S3 k3 => ⟨ρ3, η3, n, S3, k'.trans k3⟩, fun d ρ3 η3 v σ3 H3 n S3 k3 a3 => o.rt d ρ3 η3 v σ3 H3 n S3 (k1.trans (k'.trans k3)) a3, fun ρ3 η3 σ3 H3 n S3 k3 => o.nx ρ3 η3 σ3 H3 n S3 (k1.trans (k'.trans k3)), fun ρ3 η3 σ3 H3 n S3 k3 => ⟨ρ3, η3, n, S3, k'.trans k3⟩⟩
    · have ei : i = ds.length := by omega
      subst ei
      exact .inl ⟨⟨xs, sq, by rw [as.length]; exact Nat.le_refl _⟩, o.nx ρ' η' σ' H' (hd ρ' η' hI') S' (k1.trans k')⟩)
theorem sv_forT {iter tg : Expr} (t : Tg) (hp : PassesOwn (model y.X.prog y.X.w) y.X.A y.X.env y.X.xe) (hc : y.X.calm = true) (hg : PG y.X tg (tgR y.X.K t))
    (h : EV y iter ρ η fun d η1 => ∃ (ds : List D) (I : Nat → Rho → Sto → Prop), d = .tup ds ∧ I 0 ρ η1 ∧
      (∀ i d ρ' η', ds[i]? = some d → I i ρ' η' → t.ok d ∧ SVs y body (t.set d ρ') η' { N with nx := I (i + 1), ct := I (i + 1), bk := N.nx }) ∧ ∀ ρ' η', I ds.length ρ' η' → N.nx ρ' η')  (hfs : ∀ x, foldedSetIterable iter y.X.env x = pure x := by intro _; rfl) :
    SV y (.For tg iter body [] pos) ρ η N := fun fp H0 σ H S w D' o =>
  wS_of (ps_for hp hc (pi_tup pe_w) hg pss_w hfs) (h fp H0 σ H S w _ fun d η1 v H1 q S1 k1 a1 => by
    obtain ⟨ds, I, rfl, h0, hs, hd⟩ := q
    obtain ⟨a, xs, rfl, sq0, as0⟩ := at_tup.mp a1
    have hlen : xs.length = ds.length := as0.length
    refine ⟨a, rfl, ⟨xs, sq0⟩, ?_⟩
    refine ⟨fun i m σ' H' => m = ds.length - i ∧ i ≤ ds.length ∧ ∃ ρ' η', I i ρ' η' ∧ Sl y.G fp H0 H' σ' ρ' η' ∧ Kp y.G H1 H', ⟨ds.length, by simp, Nat.zero_le _, ρ, η1, h0, S1, Kp.refl⟩, ?_⟩
    rintro i m σ' H' ⟨rfl, hi, ρ', η', hI', S', k'⟩
    have sq : SqT y.X.K H' a xs := k'.seqT sq0
    have as := as0.kp k'
    by_cases hlt : i < ds.length
    · obtain ⟨x, ex, ax⟩ := as.get (List.getElem?_eq_getElem hlt)
      obtain ⟨h1, h2⟩ := hs i ds[i] ρ' η' (List.getElem?_eq_getElem hlt) hI'
      refine .inr ⟨⟨xs, x, sq, ex⟩, fun σ2 H2 => ∃ ρ2 η2, I (i + 1) ρ2 η2 ∧ Sl y.G fp H0 H2 σ2 ρ2 η2 ∧ Kp y.G H1 H2, fun σ2 H2 ⟨ρ2, η2, p1, p2, p3⟩ => ⟨ds.length - (i + 1), by omega, rfl, hlt, ρ2, η2, p1, p2, p3⟩, fun z H'' yy => ?_⟩
      obtain ⟨rfl, yy⟩ := yy
      have ez : z = x := Option.some.inj ((yy xs sq).symm.trans ex)
      subst ez
      refine tg_run (G := y.G) S' ax h1 fun σ2 S2 _ => h2 fp H0 σ2 _ S2 w _ ⟨fun ρ3 η3 σ3 H3 n S3 k3 => ⟨ρ3, η3, n, S3, k'.trans k3⟩, fun d ρ3 η3 v σ3 H3 n S3 k3 a3 => o.rt d ρ3 η3 v σ3 H3 n S3 (k1.trans (k'.trans k3)) a3, fun ρ3 η3 σ3 H3 n S3 k3 => o.nx ρ3 η3 σ3 H3 n S3 (k1.trans (k'.trans k3)), fun ρ3 η3 σ3 H3 n S3 k3 => ⟨ρ3, η3, n, S3, k'.trans k3⟩⟩
    · have ei : i = ds.length := by omega
      subst ei
      exact .inl ⟨⟨xs, sq, by rw [as.length]; exact Nat.le_refl _⟩, o.nx ρ' η' σ' H' (hd ρ' η' hI') S' (k1.trans k')⟩)
/-- what a loop over ints from lo on, n of them, asks -/
theorem itr_run {t : Tg} {tb : List Stmt} {fp : List Addr} {H0 H1 H : Hp} {σ : L2.St} {η1 : Sto} {D' : Ends} {lo c : Int} {n : Nat} {J : It} (hJ : J = Itr lo n) (hg : ∀ (d : D) (v : V) (σ : L2.St) (ρ : Rho) (η : Sto) (H : Hp) (Q : L2.St → Hp → Prop), Sl y.G fp H0 H σ ρ η → D.At y.G H d v → t.ok d → (∀ σ', Sl y.G fp H0 H σ' (t.set d ρ) η → Q σ' H) → tgR y.X.K t v σ H Q)
    (I : Nat → Rho → Sto → Prop) (h0 : I 0 ρ η1) (S1 : Sl y.G fp H0 H1 σ ρ η1) (w : Wk y fp H0) (o : OutS y fp H0 H N D') (k1 : Kp y.G H H1)
    (hs : ∀ i ρ' η', i < n → I i ρ' η' → t.ok (.int (lo + i)) ∧ SVs y tb (t.set (.int (lo + i)) ρ') η' { N with nx := I (i + 1), ct := I (i + 1), bk := N.nx }) (hd : ∀ ρ' η', I n ρ' η' → N.nx ρ' η') :
    ∃ W : Nat → Nat → L2.St → Hp → Prop, (∃ m, W 0 m σ H1) ∧ ∀ i m σ H, W i m σ H →
      (J.stop i H ∧ D'.nx σ H) ∨ (J.go i H ∧ ∃ N : L2.St → Hp → Prop, (∀ σ' H', N σ' H' → ∃ m', m' < m ∧ W (i + 1) m' σ' H') ∧ ∀ x H', J.yld i H x H' → tgR y.X.K t x σ H' fun σ2 H2 => wSs y.X tb { D' with nx := N, ct := N, bk := D'.nx } σ2 H2) := by
  subst hJ
  refine ⟨fun i m σ' H' => m = n - i ∧ i ≤ n ∧ ∃ ρ' η', I i ρ' η' ∧ Sl y.G fp H0 H' σ' ρ' η' ∧ Kp y.G H1 H', ⟨n, by simp, Nat.zero_le _, ρ, η1, h0, S1, Kp.refl⟩, ?_⟩
  rintro i m σ' H' ⟨rfl, hi, ρ', η', hI', S', k'⟩
  by_cases hlt : i < n
  · obtain ⟨h1, h2⟩ := hs i ρ' η' hlt hI'
    refine .inr ⟨hlt, fun σ2 H2 => ∃ ρ2 η2, I (i + 1) ρ2 η2 ∧ Sl y.G fp H0 H2 σ2 ρ2 η2 ∧ Kp y.G H1 H2, fun σ2 H2 ⟨ρ2, η2, p1, p2, p3⟩ => ⟨n - (i + 1), by omega, rfl, hlt, ρ2, η2, p1, p2, p3⟩, fun z H'' yy => ?_⟩
    obtain ⟨rfl, rfl⟩ := yy
    refine hg _ _ _ _ _ _ _ S' (at_int.mpr rfl) h1 fun σ2 S2 => h2 fp H0 σ2 _ S2 w _ ⟨fun ρ3 η3 σ3 H3 n S3 k3 => ⟨ρ3, η3, n, S3, k'.trans k3⟩, fun d ρ3 η3 v σ3 H3 n S3 k3 a3 => o.rt d ρ3 η3 v σ3 H3 n S3 (k1.trans (k'.trans k3)) a3, fun ρ3 η3 σ3 H3 n S3 k3 => o.nx ρ3 η3 σ3 H3 n S3 (k1.trans (k'.trans k3)), fun ρ3 η3 σ3 H3 n S3 k3 => ⟨ρ3, η3, n, S3, k'.trans k3⟩⟩
  · have ei : i = n := by omega
    subst ei
    exact .inl ⟨Nat.le_refl _, o.nx ρ' η' σ' H' (hd ρ' η' hI') S' (k1.trans k')⟩
theorem sv_forR {a tg : Expr} {x : Str} (t : Tg) (hm : y.X.mg "range" = none) (hp : PassesOwn (model y.X.prog y.X.w) y.X.A y.X.env y.X.xe) (hc : y.X.calm = true) (hg : PG y.X tg (tgR y.X.K t))
    (h : AV y [a] ρ η fun ds η1 => ∃ (j : Int) (I : Nat → Rho → Sto → Prop), ds = [.int j] ∧ -(2 ^ 62) ≤ j ∧ j < 2 ^ 62 ∧ I 0 ρ η1 ∧
      (∀ i ρ' η', i < j.toNat → I i ρ' η' → t.ok (.int (0 + i)) ∧ SVs y body (t.set (.int (0 + i)) ρ') η' { N with nx := I (i + 1), ct := I (i + 1), bk := N.nx }) ∧ ∀ ρ' η', I j.toNat ρ' η' → N.nx ρ' η') (hgl : Gl y.X "range" := by rfl)
    (hs : starEach [a] y.X.env = [(false, eval a y.X.env)] := by exact star_cons (by rfl)) : SV y (.For tg (.Call (.Name "range" p1) [a] [] p2) body [] pos) ρ η N := fun fp H0 σ H S w D' o =>
  wS_of (ps_for hp hc (pi_range1 hgl hm pa_w hs) hg pss_w) (h fp H0 σ H S w _ fun ds η1 vs H1 q S1 k1 a1 => by
    obtain ⟨j, I, rfl, b1, b2, h0, hs, hd⟩ := q
    have ev : vs = [.int j] := by
      obtain ⟨x, ys, rfl, z1, z2⟩ := ats_cons.mp a1
      rw [at_int.mp z1, ats_nil.mp z2]
    exact ⟨j, ev, b1, b2, itr_run (y := y) (c := 1) rfl (fun d v σ ρ η H Q S a ok q => tg_run (G := y.G) S a ok fun σ' S' _ => q σ' S') I h0 S1 w o k1 hs hd⟩)
theorem sv_while (hp : PassesOwn (model y.X.prog y.X.w) y.X.A y.X.env y.X.xe) (I : Nat → Rho → Sto → Prop) (m0 : Nat) (h0 : I m0 ρ η)
    (hs : ∀ m ρ' η', I m ρ' η' → TV y c ρ' η' fun b η1 => (b = true → SVs y body ρ' η1 { N with nx := fun ρ2 η2 => ∃ m', m' < m ∧ I m' ρ2 η2, ct := fun ρ2 η2 => ∃ m', m' < m ∧ I m' ρ2 η2, bk := N.nx }) ∧ (b = false → N.nx ρ' η1)) :
    SV y (.While c body [] pos) ρ η N := fun fp H0 σ H S w D' o =>
  wS_of (ps_while hp pt_w pss_w) (by
    refine ⟨fun m σ' H' => ∃ ρ' η', I m ρ' η' ∧ Sl y.G fp H0 H' σ' ρ' η' ∧ Kp y.G H H', ⟨m0, ρ, η, h0, S, Kp.refl⟩, ?_⟩
    rintro m σ' H' ⟨ρ', η', hI, S', k'⟩
    refine hs m ρ' η' hI fp H0 σ' H' S' w _ fun b η1 H1 q S1 k1 => ?_
    cases b with
    | true =>
      refine iteT ⟨fun σ2 H2 => ∃ m', m' < m ∧ ∃ ρ2 η2, I m' ρ2 η2 ∧ Sl y.G fp H0 H2 σ2 ρ2 η2 ∧ Kp y.G H H2, fun σ2 H2 ⟨m', l, z⟩ => ⟨m', l, z⟩, ?_⟩
      have kk := k'.trans k1
      refine q.1 rfl fp H0 σ' H1 S1 w _ ⟨fun ρ3 η3 σ3 H3 n S3 k3 => ?_, fun d ρ3 η3 v σ3 H3 n S3 k3 a3 => o.rt d ρ3 η3 v σ3 H3 n S3 (kk.trans k3) a3, fun ρ3 η3 σ3 H3 n S3 k3 => o.nx ρ3 η3 σ3 H3 n S3 (kk.trans k3), fun ρ3 η3 σ3 H3 n S3 k3 => ?_⟩
      · obtain ⟨m', l, z⟩ := n
        exact ⟨m', l, ρ3, η3, z, S3, kk.trans k3⟩
      · obtain ⟨m', l, z⟩ := n
        exact ⟨m', l, ρ3, η3, z, S3, kk.trans k3⟩
    | false => exact iteF (o.nx ρ' η1 σ' H1 (q.2 rfl) S1 (k'.trans k1)))
end
end Sx

/-! S4: sources of loops, comprehensions, a def's promise by its body. -/
namespace Sx
open PySem PySem.Spec PyProof.Rows L2
open LamX (Tabs TabS)

/-- what a loop walks: the items, while P holds of the store -/
structure Src (G : Gv) (J : It) (H1 : Hp) (P : Sto → Prop) (items : List D) : Prop where
  go : ∀ i fp H0 σ H ρ η, Sl G fp H0 H σ ρ η → P η → Kp G H1 H → i < items.length → J.go i H
  yld : ∀ i d fp H0 σ H ρ η x H', Sl G fp H0 H σ ρ η → P η → Kp G H1 H → items[i]? = some d → J.yld i H x H' → Gr G H H' ∧ D.At G H' d x
  stop : ∀ fp H0 σ H ρ η, Sl G fp H0 H σ ρ η → P η → Kp G H1 H → J.stop items.length H
section
variable {G : Gv} {H1 : Hp}
theorem src_list {a : Addr} {ds : List D} : Src G (Itl G.K a) H1 (fun η => (a, Mo.lst ds) ∈ η) ds where
  go := fun i fp H0 σ H ρ η S p k hi => by
    obtain ⟨o, e, xs, rfl, as⟩ := S.st.at_ _ _ p
    obtain ⟨x, ex, _⟩ := as.get (List.getElem?_eq_getElem hi)
    exact ⟨xs, x, SqL.of e, ex⟩
  yld := fun i d fp H0 σ H ρ η x H' S p k hd hy => by
    obtain ⟨o, e, xs, rfl, as⟩ := S.st.at_ _ _ p
    obtain ⟨rfl, y⟩ := hy
    obtain ⟨x', ex, ax⟩ := as.get hd
    have : x = x' := Option.some.inj ((y xs (SqL.of e)).symm.trans ex)
    subst this
    exact ⟨Gr.refl, ax⟩
  stop := fun fp H0 σ H ρ η S p k => by
    obtain ⟨o, e, xs, rfl, as⟩ := S.st.at_ _ _ p
    exact ⟨xs, SqL.of e, by rw [as.length]; exact Nat.le_refl _⟩
theorem src_tup {a : Addr} {ds : List D} {xs : List V} (sq : SqT G.K H1 a xs) (as : D.Ats G H1 ds xs) : Src G (Itt G.K a) H1 (fun _ => True) ds where
  go := fun i fp H0 σ H ρ η S p k hi => by
    obtain ⟨x, ex, _⟩ := as.get (List.getElem?_eq_getElem hi)
    exact ⟨xs, x, k.seqT sq, ex⟩
  yld := fun i d fp H0 σ H ρ η x H' S p k hd hy => by
    obtain ⟨rfl, y⟩ := hy
    obtain ⟨x', ex, ax⟩ := (as.kp k).get hd
    have : x = x' := Option.some.inj ((y xs (k.seqT sq)).symm.trans ex)
    subst this
    exact ⟨Gr.refl, ax⟩
  stop := fun fp H0 σ H ρ η S p k => ⟨xs, k.seqT sq, by rw [as.length]; exact Nat.le_refl _⟩
def intsL (lo : Int) (n : Nat) : List D := (List.range n).map fun i => D.int (lo + (i : Nat))
theorem ints_len {lo : Int} {n : Nat} : (intsL lo n).length = n := by unfold intsL; rw [List.length_map, List.length_range]
theorem ints_get {lo : Int} {n i : Nat} {d : D} (h : (intsL lo n)[i]? = some d) : i < n ∧ d = .int (lo + (i : Nat)) := by
  unfold intsL at h
  rw [List.getElem?_map] at h
  by_cases hi : i < n
  · rw [List.getElem?_range hi] at h
    exact ⟨hi, (Option.some.inj h).symm⟩
  · rw [List.getElem?_eq_none (by rw [List.length_range]; omega)] at h
    cases h
theorem src_rng {lo : Int} {n : Nat} : Src G (Itr lo n) H1 (fun _ => True) (intsL lo n) where
  go := fun i fp H0 σ H ρ η S p k hi => by rw [ints_len] at hi; exact hi
  yld := fun i d fp H0 σ H ρ η x H' S p k hd hy => by
    obtain ⟨rfl, rfl⟩ := hy
    obtain ⟨_, rfl⟩ := ints_get hd
    exact ⟨Gr.refl, at_int.mpr rfl⟩
  stop := fun fp H0 σ H ρ η S p k => by rw [ints_len]; exact Nat.le_refl _
def intsC (lo c : Int) (n : Nat) : List D := (List.range n).map fun i => D.int (lo + (i : Nat) * c)
theorem intsC_len {lo c : Int} {n : Nat} : (intsC lo c n).length = n := by unfold intsC; rw [List.length_map, List.length_range]
theorem intsC_get {lo c : Int} {n i : Nat} {d : D} (h : (intsC lo c n)[i]? = some d) : i < n ∧ d = .int (lo + (i : Nat) * c) := by
  unfold intsC at h
  rw [List.getElem?_map] at h
  by_cases hi : i < n
  · rw [List.getElem?_range hi] at h
    exact ⟨hi, (Option.some.inj h).symm⟩
  · rw [List.getElem?_eq_none (by rw [List.length_range]; omega)] at h
    cases h
theorem src_rngC {lo c : Int} {n : Nat} : Src G (Itc lo c n) H1 (fun _ => True) (intsC lo c n) where
  go := fun i fp H0 σ H ρ η S p k hi => by rw [intsC_len] at hi; exact hi
  yld := fun i d fp H0 σ H ρ η x H' S p k hd hy => by
    obtain ⟨rfl, rfl⟩ := hy
    obtain ⟨_, rfl⟩ := intsC_get hd
    exact ⟨Gr.refl, at_int.mpr rfl⟩
  stop := fun fp H0 σ H ρ η S p k => by rw [intsC_len]; exact Nat.le_refl _
def strsL (x : Str) : List D := x.cps.toList.map fun c => D.str ⟨#[c]⟩
theorem src_str {x : Str} : Src G (Its x) H1 (fun _ => True) (strsL x) where
  go := fun i fp H0 σ H ρ η S p k hi => by
    unfold strsL at hi
    rw [List.length_map] at hi
    exact hi
  yld := fun i d fp H0 σ H ρ η z H' S p k hd hy => by
    obtain ⟨rfl, c, e, rfl⟩ := hy
    unfold strsL at hd
    rw [List.getElem?_map, Array.getElem?_toList, e] at hd
    cases hd
    exact ⟨Gr.refl, at_str.mpr rfl⟩
  stop := fun fp H0 σ H ρ η S p k => by
    unfold strsL
    rw [List.length_map]
    exact Nat.le_refl _
def enums (ds : List D) : List D := ds.mapIdx fun i d => D.tup [.int (i : Nat), d]
theorem src_enum {a : Addr} {ds : List D} : Src G (Ite G.K a) H1 (fun η => (a, Mo.lst ds) ∈ η) (enums ds) where
  go := fun i fp H0 σ H ρ η S p k hi => by
    obtain ⟨o, e, xs, rfl, as⟩ := S.st.at_ _ _ p
    unfold enums at hi
    rw [List.length_mapIdx] at hi
    obtain ⟨x, ex, _⟩ := as.get (List.getElem?_eq_getElem hi)
    exact ⟨xs, x, SqL.of e, ex⟩
  yld := fun i d fp H0 σ H ρ η x H' S p k hd hy => by
    obtain ⟨o, e, xs, rfl, as⟩ := S.st.at_ _ _ p
    obtain ⟨T, z, rfl, nT, rfl, y⟩ := hy
    unfold enums at hd
    rw [List.getElem?_mapIdx] at hd
    obtain ⟨d', e', rfl⟩ := Option.map_eq_some_iff.mp hd
    obtain ⟨x', ex, ax⟩ := as.get e'
    have : z = x' := Option.some.inj ((y xs (SqL.of e)).symm.trans ex)
    subst this
    have g : Gr G H (upd H T (.tup [.int (i : Nat), z])) := Gr.new nT
    exact ⟨g, at_tup.mpr ⟨T, _, rfl, SqT.of upd_same, ats_cons.mpr ⟨_, _, rfl, at_int.mpr rfl, D.Ats.one (ax.kp g.kp)⟩⟩⟩
  stop := fun fp H0 σ H ρ η S p k => by
    obtain ⟨o, e, xs, rfl, as⟩ := S.st.at_ _ _ p
    refine ⟨xs, SqL.of e, ?_⟩
    unfold enums
    rw [List.length_mapIdx, as.length]
    exact Nat.le_refl _
theorem src_rev {a : Addr} {ds : List D} : Src G (Itv G.K a ds.length) H1 (fun η => (a, Mo.lst ds) ∈ η) ds.reverse where
  go := fun i fp H0 σ H ρ η S p k hi => by
    obtain ⟨o, e, xs, rfl, as⟩ := S.st.at_ _ _ p
    rw [List.length_reverse] at hi
    obtain ⟨x, ex, _⟩ := as.get (i := ds.length - 1 - i) (List.getElem?_eq_getElem (by omega))
    exact ⟨hi, xs, x, SqL.of e, ex⟩
  yld := fun i d fp H0 σ H ρ η x H' S p k hd hy => by
    obtain ⟨o, e, xs, rfl, as⟩ := S.st.at_ _ _ p
    obtain ⟨rfl, y⟩ := hy
    have hi : i < ds.length := by
      have := (List.getElem?_eq_some_iff.mp hd).1
      rw [List.length_reverse] at this
      exact this
    rw [List.getElem?_reverse hi] at hd
    obtain ⟨x', ex, ax⟩ := as.get hd
    have : x = x' := Option.some.inj ((y xs (SqL.of e)).symm.trans ex)
    subst this
    exact ⟨Gr.refl, ax⟩
  stop := fun fp H0 σ H ρ η S p k => by rw [List.length_reverse]; exact Nat.le_refl _
end

structure wI (X : Cx) (tg iter : Expr)  (σ : L2.St) (H : Hp) (R : It → Hp → Prop) : Prop where
  run : ∀ pins s, Inv X pins σ H s → wpAny (model X.prog X.w) X.A (eval iter X.env) (fun v s1 => wpAny (model X.prog X.w) X.A (pyIter v) (PIE X pins σ tg R) X.xe s1) X.xe s
theorem pi_w {X : Cx} {tg iter : Expr} : PI X tg iter (wI X tg iter) := ⟨fun pins s _ _ _ I h => h.run pins s I⟩
theorem wI_of {X : Cx} {tg iter : Expr} {t : TI} {σ : L2.St} {H : Hp} {R : It → Hp → Prop} (p : PI X tg iter t) (h : t σ H R) : wI X tg iter σ H R := .mk fun pins s I => p.run pins s σ H R I h
def IV (y : Sy) (tg iter : Expr) (ρ : Rho) (η : Sto) (Q : List D → (Sto → Prop) → Sto → Prop) : Prop :=
  ∀ fp H0 σ H, Sl y.G fp H0 H σ ρ η → Wk y fp H0 → ∀ R : It → Hp → Prop, (∀ items P η' J H', Q items P η' → Sl y.G fp H0 H' σ ρ η' → Kp y.G H H' → Src y.G J H' P items → R J H') → wI y.X tg iter σ H R
section
variable {y : Sy} {tg iter a b c e : Expr} {ρ : Rho} {η : Sto} {Q : List D → (Sto → Prop) → Sto → Prop} {pos p1 p2 : Pos}
theorem iv_list (h : EV y iter ρ η fun d η1 => ∃ a ds, d = .ref a ∧ (a, .lst ds) ∈ η1 ∧ Q ds (fun η => (a, .lst ds) ∈ η) η1) : IV y tg iter ρ η Q := fun fp H0 σ H S w R q =>
  wI_of (pi_list pe_w) (h fp H0 σ H S w _ fun d η1 v H1 z S1 k1 a1 => by
    obtain ⟨a, ds, rfl, hm, z⟩ := z
    obtain ⟨o, e, xs, rfl, as⟩ := S1.st.at_ _ _ hm
    exact ⟨a, at_ref.mp a1, ⟨xs, SqL.of e⟩, q ds _ η1 _ H1 z S1 k1 src_list⟩)
theorem iv_tup (h : EV y iter ρ η fun d η1 => ∃ ds, d = .tup ds ∧ Q ds (fun _ => True) η1) : IV y tg iter ρ η Q := fun fp H0 σ H S w R q =>
  wI_of (pi_tup pe_w) (h fp H0 σ H S w _ fun d η1 v H1 z S1 k1 a1 => by
    obtain ⟨ds, rfl, z⟩ := z
    obtain ⟨a, xs, rfl, sq, as⟩ := at_tup.mp a1
    exact ⟨a, rfl, ⟨xs, sq⟩, q ds _ η1 _ H1 z S1 k1 (src_tup sq as)⟩)
theorem iv_str (h : EV y iter ρ η fun d η1 => ∃ x, d = .str x ∧ Q (strsL x) (fun _ => True) η1) : IV y tg iter ρ η Q := fun fp H0 σ H S w R q =>
  wI_of (pi_str pe_w) (h fp H0 σ H S w _ fun d η1 v H1 z S1 k1 a1 => by
    obtain ⟨x, rfl, z⟩ := z
    exact ⟨x, at_str.mp a1, q _ _ η1 _ H1 z S1 k1 src_str⟩)
theorem iv_rng1 (hm : y.X.mg "range" = none) (h : AV y [a] ρ η fun ds η1 => ∃ j : Int, ds = [.int j] ∧ -(2 ^ 62) ≤ j ∧ j < 2 ^ 62 ∧ Q (intsL 0 j.toNat) (fun _ => True) η1) (hg : Gl y.X "range" := by rfl) (hs : starEach [a] y.X.env = [(false, eval a y.X.env)] := by exact star_cons (by rfl)) :
    IV y tg (.Call (.Name "range" p1) [a] [] p2) ρ η Q := fun fp H0 σ H S w R q =>
  wI_of (pi_range1 hg hm pa_w hs) (h fp H0 σ H S w _ fun ds η1 vs H1 z S1 k1 a1 => by
    obtain ⟨j, rfl, b1, b2, z⟩ := z
    obtain ⟨x, ys, rfl, z1, z2⟩ := ats_cons.mp a1
    exact ⟨j, by rw [at_int.mp z1, ats_nil.mp z2], b1, b2, q _ _ η1 _ H1 z S1 k1 src_rng⟩)
theorem iv_rng2 (hm : y.X.mg "range" = none) (h : AV y [a, b] ρ η fun ds η1 => ∃ i j : Int, ds = [.int i, .int j] ∧ (-(2 ^ 62) ≤ i ∧ i < 2 ^ 62 ∧ -(2 ^ 62) ≤ j ∧ j < 2 ^ 62) ∧ Q (intsL i (j - i).toNat) (fun _ => True) η1) (hg : Gl y.X "range" := by rfl)
    (hs : starEach [a, b] y.X.env = [(false, eval a y.X.env), (false, eval b y.X.env)] := by rfl) (hs2 : starEach [b] y.X.env = [(false, eval b y.X.env)] := by exact star_cons (by rfl)) :
    IV y tg (.Call (.Name "range" p1) [a, b] [] p2) ρ η Q := fun fp H0 σ H S w R q =>
  wI_of (pi_range2 hg hm pa_w hs hs2) (h fp H0 σ H S w _ fun ds η1 vs H1 z S1 k1 a1 => by
    obtain ⟨i, j, rfl, b1, z⟩ := z
    obtain ⟨x, ys, rfl, z1, z2⟩ := ats_cons.mp a1
    obtain ⟨x', ys, rfl, z3, z4⟩ := ats_cons.mp z2
    exact ⟨i, j, by rw [at_int.mp z1, at_int.mp z3, ats_nil.mp z4], b1, q _ _ η1 _ H1 z S1 k1 src_rng⟩)
theorem iv_rng3 (hm : y.X.mg "range" = none) (h : AV y [a, b, c] ρ η fun ds η1 => ∃ (i j k : Int) (n : Nat), ds = [.int i, .int j, .int k] ∧ RgC i j k n ∧ Q (intsC i k n) (fun _ => True) η1) (hg : Gl y.X "range" := by rfl)
    (hs : starEach [a, b, c] y.X.env = (false, eval a y.X.env) :: starEach [b, c] y.X.env := by rfl) (hpl : (backTo p2 (starEach [b, c] y.X.env)).any (·.1) = false := by exact star_any (by rfl)) :
    IV y tg (.Call (.Name "range" p1) [a, b, c] [] p2) ρ η Q := fun fp H0 σ H S w R q =>
  wI_of (pi_range3 hg hm pa_w hs hpl) (h fp H0 σ H S w _ fun ds η1 vs H1 z S1 k1 a1 => by
    obtain ⟨i, j, k, n, rfl, b1, z⟩ := z
    obtain ⟨x, ys, rfl, z1, z2⟩ := ats_cons.mp a1
    obtain ⟨x', ys, rfl, z3, z4⟩ := ats_cons.mp z2
    obtain ⟨x'', ys, rfl, z5, z6⟩ := ats_cons.mp z4
    exact ⟨i, j, k, n, by rw [at_int.mp z1, at_int.mp z3, at_int.mp z5, ats_nil.mp z6], b1, q _ _ η1 _ H1 z S1 k1 src_rngC⟩)
theorem iv_enum {elts : List Expr} {kk : Nat} {tpos : Pos} (hm : y.X.mg "enumerate" = none) (h : AV y [e] ρ η fun vs η1 => ∃ a ds, vs = [.ref a] ∧ (a, .lst ds) ∈ η1 ∧ Q (enums ds) (fun η => (a, .lst ds) ∈ η) η1) (hg : Gl y.X "enumerate" := by rfl) (hs : starEach [e] y.X.env = [(false, eval e y.X.env)] := by exact star_cons (by rfl)) :
    IV y (.Tuple elts kk tpos) (.Call (.Name "enumerate" p1) [e] [] p2) ρ η Q := fun fp H0 σ H S w R q =>
  wI_of (pi_enum hg hm pa_w hs) (h fp H0 σ H S w _ fun ds η1 vs H1 z S1 k1 a1 => by
    obtain ⟨a, ds, rfl, hmem, z⟩ := z
    obtain ⟨x, ys, rfl, z1, z2⟩ := ats_cons.mp a1
    obtain ⟨o, e, xs, rfl, as⟩ := S1.st.at_ _ _ hmem
    exact ⟨a, xs, by rw [at_ref.mp z1, ats_nil.mp z2], SqL.of e, q _ _ η1 _ H1 z S1 k1 src_enum⟩)
theorem iv_rev (hm : y.X.mg "reversed" = none) (h : AV y [e] ρ η fun vs η1 => ∃ a ds, vs = [.ref a] ∧ (a, .lst ds) ∈ η1 ∧ Q ds.reverse (fun η => (a, .lst ds) ∈ η) η1) (hg : Gl y.X "reversed" := by rfl) (hs : starEach [e] y.X.env = [(false, eval e y.X.env)] := by exact star_cons (by rfl)) :
    IV y tg (.Call (.Name "reversed" p1) [e] [] p2) ρ η Q := fun fp H0 σ H S w R q =>
  wI_of (pi_reversed hg hm pa_w hs) (h fp H0 σ H S w _ fun ds η1 vs H1 z S1 k1 a1 => by
    obtain ⟨a, ds, rfl, hmem, z⟩ := z
    obtain ⟨x, ys, rfl, z1, z2⟩ := ats_cons.mp a1
    obtain ⟨o, e, xs, rfl, as⟩ := S1.st.at_ _ _ hmem
    have hl : xs.length = ds.length := as.length
    exact ⟨a, xs, by rw [at_ref.mp z1, ats_nil.mp z2], SqL.of e, q _ _ η1 _ H1 z S1 k1 (by rw [hl]; exact src_rev)⟩)
/-! the loop over any source -/
variable {body : List Stmt} {N : En}
theorem sv_forI (t : Tg) (hp : PassesOwn (model y.X.prog y.X.w) y.X.A y.X.env y.X.xe) (hc : y.X.calm = true) (hg : PG y.X tg (tgR y.X.K t))
    (h : IV y tg iter ρ η fun items P η1 => ∃ I : Nat → Rho → Sto → Prop, (∀ i ρ' η', I i ρ' η' → P η') ∧ I 0 ρ η1 ∧
      (∀ i d ρ' η', items[i]? = some d → I i ρ' η' → t.ok d ∧ SVs y body (t.set d ρ') η' { N with nx := I (i + 1), ct := I (i + 1), bk := N.nx }) ∧ ∀ ρ' η', I items.length ρ' η' → N.nx ρ' η')
    (hfs : ∀ x, foldedSetIterable iter y.X.env x = pure x := by intro _; rfl) : SV y (.For tg iter body [] pos) ρ η N := fun fp H0 σ H S w D' o =>
  wS_of (ps_for hp hc pi_w hg pss_w hfs) (h fp H0 σ H S w _ fun items P η1 J H1 q S1 k1 src => by
    obtain ⟨I, hI, h0, hs, hd⟩ := q
    refine ⟨fun i m σ' H' => m = items.length - i ∧ i ≤ items.length ∧ ∃ ρ' η', I i ρ' η' ∧ Sl y.G fp H0 H' σ' ρ' η' ∧ Kp y.G H1 H', ⟨items.length, by simp, Nat.zero_le _, ρ, η1, h0, S1, Kp.refl⟩, ?_⟩
    rintro i m σ' H' ⟨rfl, hi, ρ', η', hI', S', k'⟩
    by_cases hlt : i < items.length
    · refine .inr ⟨src.go i fp H0 σ' H' ρ' η' S' (hI i ρ' η' hI') k' hlt, fun σ2 H2 => ∃ ρ2 η2, I (i + 1) ρ2 η2 ∧ Sl y.G fp H0 H2 σ2 ρ2 η2 ∧ Kp y.G H1 H2, fun σ2 H2 ⟨ρ2, η2, p1, p2, p3⟩ => ⟨items.length - (i + 1), by omega, rfl, hlt, ρ2, η2, p1, p2, p3⟩, fun z H'' yy => ?_⟩
      obtain ⟨g, az⟩ := src.yld i items[i] fp H0 σ' H' ρ' η' z H'' S' (hI i ρ' η' hI') k' (List.getElem?_eq_getElem hlt) yy
      obtain ⟨h1, h2⟩ := hs i items[i] ρ' η' (List.getElem?_eq_getElem hlt) hI'
      have kk := k'.trans g.kp
      refine tg_run (G := y.G) (S'.gr g) az h1 fun σ2 S2 _ => h2 fp H0 σ2 _ S2 w _ ⟨fun ρ3 η3 σ3 H3 n S3 k3 => ⟨ρ3, η3, n, S3, kk.trans k3⟩, fun d ρ3 η3 v σ3 H3 n S3 k3 a3 => o.rt d ρ3 η3 v σ3 H3 n S3 (k1.trans (kk.trans k3)) a3, fun ρ3 η3 σ3 H3 n S3 k3 => o.nx ρ3 η3 σ3 H3 n S3 (k1.trans (kk.trans k3)), fun ρ3 η3 σ3 H3 n S3 k3 => ⟨ρ3, η3, n, S3, kk.trans k3⟩⟩
    · have ei : i = items.length := by omega
      subst ei
      exact .inl ⟨src.stop fp H0 σ' H' ρ' η' S' (hI _ ρ' η' hI') k', o.nx ρ' η' σ' H' (hd ρ' η' hI') S' (k1.trans k')⟩)
end

/-! ### comprehensions -/
def wipeR (ρ : Rho) : List Nat → Rho
  | [] => ρ
  | v :: vs => (wipeR ρ vs).set v none
theorem wipeR_len (ρ : Rho) : ∀ vs : List Nat, (wipeR ρ vs).length = ρ.length
  | [] => rfl
  | v :: vs => by unfold wipeR; rw [List.length_set, wipeR_len ρ vs]
theorem wipeR_some {ρ : Rho} {i : Nat} {d : D} : ∀ {vs : List Nat}, (wipeR ρ vs)[i]? = some (some d) → ρ[i]? = some (some d) ∧ i ∉ vs
  | [], h => ⟨h, by simp⟩
  | v :: vs, h => by
    unfold wipeR at h
    by_cases hi : v = i
    · subst hi
      by_cases hv : v < (wipeR ρ vs).length
      · rw [List.getElem?_set_self hv] at h; cases h
      · rw [List.getElem?_eq_none (by simpa using hv)] at h; cases h
    · rw [List.getElem?_set_ne hi] at h
      obtain ⟨h1, h2⟩ := wipeR_some h
      exact ⟨h1, by simp [Ne.symm hi, h2]⟩
theorem wipe_get {σ : L2.St} {i : Nat} : ∀ {vs : List Nat}, i ∉ vs → (wipe σ vs)[i]? = σ[i]?
  | [], _ => rfl
  | v :: vs, h => by
    unfold wipe
    rw [List.getElem?_set_ne (fun e => h (by rw [e]; exact List.mem_cons_self)), wipe_get fun z => h (List.mem_cons_of_mem _ z)]
theorem Sl.wipe {G : Gv} {fp : List Addr} {H0 H : Hp} {σ : L2.St} {ρ : Rho} {η : Sto} (S : Sl G fp H0 H σ ρ η) (vs : List Nat) : Sl G fp H0 H (L2.wipe σ vs) (wipeR ρ vs) η :=
  ⟨S.fr, S.tb, by rw [wipe_length, wipeR_len]; exact S.len, fun i d h => by
    obtain ⟨h1, h2⟩ := wipeR_some h
    rw [wipe_get h2]
    exact S.sl i d h1, S.st⟩
/-- the same, seen from here on -/
theorem Sl.rebase {G : Gv} {fp : List Addr} {H0 H : Hp} {σ : L2.St} {ρ : Rho} {η : Sto} (S : Sl G fp H0 H σ ρ η) : Sl G (η.map (·.1)) H H σ ρ η :=
  ⟨Fr.refl, S.tb, S.len, S.sl, ⟨S.st.at_, fun a m h => .inl (List.mem_map.mpr ⟨_, h, rfl⟩), S.st.nd⟩⟩
/-- a comprehension's block within y -/
def Sy.blk (y : Sy) (s : Shared) (H : Hp) (scope : Scope) (C : Addr) (cl : List (Str × Addr)) (fp : List Addr) : Sy :=
  { X := y.X.blk s H scope (compEnvC scope cl C y.X.env) fp, MC := y.MC, T := y.T, W := fun _ _ _ _ => False, R := fun _ _ _ _ _ => False }
section
variable {y : Sy} {tg iter elt c : Expr} {ρ : Rho} {η : Sto} {Q : D → Sto → Prop} {pos : Pos} {scope : Scope} {own : List (Str × Nat)}
theorem wk_blk {s : Shared} {H : Hp} {C : Addr} {cl : List (Str × Addr)} {f fp : List Addr} {H0 : Hp} : Wk (y.blk s H scope C cl f) fp H0 := fun _ _ _ _ _ _ h _ => h.elim
/-- [elt for tg in iter] -/
theorem ev_lc (t : Tg) (hc : y.X.calm = true) (hN : y.X.N.Nodup) (ok : BlkOk y.X.N y.X.env.scope scope own)
    (hg : ∀ (s : Shared) (H : Hp) (C : Addr) (cl : List (Str × Addr)) (fp : List Addr), PG (y.X.blk s H scope (compEnvC scope cl C y.X.env) fp) tg (tgR y.X.K t)) (hns : ∀ i ∈ t.ns, i ∈ own.map (·.2))
    (h : IV y tg iter ρ η fun items P η1 => ∃ I : Nat → List D → Sto → Prop, (∀ i acc η', I i acc η' → P η' ∧ acc.length < sizeLine) ∧ I 0 [] η1 ∧
      (∀ i d acc η', items[i]? = some d → I i acc η' → t.ok d ∧ ∀ s H C cl fp, EV (y.blk s H scope C cl fp) elt (t.set d (wipeR ρ (own.map (·.2)))) η' fun e η2 => I (i + 1) (acc ++ [e]) η2) ∧
      ∀ acc η' D, I items.length acc η' → Q (.ref D) ((D, .lst acc) :: η'))
    (hfs : ∀ x, foldedSetIterable iter y.X.env x = pure x := by intro _; rfl) : EV y (.ListComp elt [⟨tg, iter, [], 0⟩] scope pos) ρ η Q := fun fp H0 σ H S w Qv o =>
  wE_of (pe_lc (te := fun σ H Q => ∀ s H' C cl fp, wE (y.X.blk s H' scope (compEnvC scope cl C y.X.env) fp) elt σ H Q) hc hN pi_w ok hg (fun _ _ _ _ _ => pts_nil) (fun s H C cl fp => ⟨fun pins s' σ H' Q I q => (q s H C cl fp).run pins s' I⟩) hfs)
    (h fp H0 σ H S w _ fun items P η1 J H1 q S1 k1 src => by
      obtain ⟨I, hI, h0, hs, hd⟩ := q
      intro L nD
      have S1w := S1.wipe (own.map (·.2))
      have g1 : Gr y.G H1 (upd H1 L (.lst [])) := Gr.new nD
      refine ⟨fun i m H' => m = items.length - i ∧ i ≤ items.length ∧ ∃ acc η', I i acc η' ∧ Sl y.G fp H0 H' (L2.wipe σ (own.map (·.2))) (wipeR ρ (own.map (·.2))) ((L, .lst acc) :: η') ∧ Sl y.G fp H0 H' σ ρ ((L, .lst acc) :: η') ∧ Kp y.G H1 H',
        ⟨items.length, by simp, Nat.zero_le _, [], η1, h0, S1w.alloc nD (m := .lst []) ⟨[], rfl, ats_nil.mpr rfl⟩, S1.alloc nD (m := .lst []) ⟨[], rfl, ats_nil.mpr rfl⟩, g1.kp⟩, ?_⟩
      rintro i m H' ⟨rfl, hi, acc, η', hI', S', Sf, k'⟩
      obtain ⟨p', al⟩ := hI i acc η' hI'
      have nd' := S'.st.nd
      rw [List.map_cons, List.nodup_cons] at nd'
      have S2 : Sl y.G fp H0 H' (L2.wipe σ (own.map (·.2))) (wipeR ρ (own.map (·.2))) η' := S'.sub (fun p hp => List.mem_cons_of_mem _ hp) nd'.2
      by_cases hlt : i < items.length
      · refine .inr ⟨src.go i fp H0 _ H' _ η' S2 p' k' hlt, fun H2 => ∃ acc2 η2, I (i + 1) acc2 η2 ∧ Sl y.G fp H0 H2 (L2.wipe σ (own.map (·.2))) (wipeR ρ (own.map (·.2))) ((L, .lst acc2) :: η2) ∧ Sl y.G fp H0 H2 σ ρ ((L, .lst acc2) :: η2) ∧ Kp y.G H1 H2,
          fun H2 ⟨acc2, η2, z⟩ => ⟨items.length - (i + 1), by omega, rfl, hlt, acc2, η2, z⟩, fun x H2 yy => ?_⟩
        obtain ⟨g, az⟩ := src.yld i items[i] fp H0 _ H' _ η' x H2 S2 p' k' (List.getElem?_eq_getElem hlt) yy
        obtain ⟨h1, h2⟩ := hs i items[i] acc η' (List.getElem?_eq_getElem hlt) hI'
        have S3 := S'.gr g
        refine tg_run (G := y.G) (S2.gr g) az h1 fun σ2 Sσ hw => ⟨?_, ?_⟩
        · have hw2 : ∀ ws : List Nat, (∀ i ∈ t.ns, i ∈ ws) → L2.wipe σ2 ws = L2.wipe (L2.wipe σ (own.map (·.2))) ws := by
            intro ws hws
            have e1 : ∀ (us : List Nat) (τ : L2.St), (∀ i ∈ us, i ∈ ws) → L2.wipe (L2.wipe τ us) ws = L2.wipe τ ws := by
              intro us
              induction us with
              | nil => intro τ _; rfl
              | cons u us ih =>
                intro τ hu
                show L2.wipe ((L2.wipe τ us).set u none) ws = _
                rw [wipe_set (hu u List.mem_cons_self), ih τ fun i hi => hu i (List.mem_cons_of_mem _ hi)]
            rw [← e1 t.ns σ2 hws, hw, e1 t.ns _ hws]
          rw [hw2 _ hns]
          have e2 : ∀ (us ws : List Nat) (τ : L2.St), (∀ i ∈ us, i ∈ ws) → L2.wipe (L2.wipe τ us) ws = L2.wipe τ ws := by
            intro us
            induction us with
            | nil => intro _ τ _; rfl
            | cons u us ih =>
              intro ws τ hu
              show L2.wipe ((L2.wipe τ us).set u none) ws = _
              rw [wipe_set (hu u List.mem_cons_self), ih ws τ fun i hi => hu i (List.mem_cons_of_mem _ hi)]
          exact e2 _ _ σ fun _ h => h
        · unfold tYes
          dsimp only
          rw [if_pos rfl]
          intro s' H'' C cl f
          refine h2 s' H'' C cl f (η'.map fun (x : Addr × Mo) => x.1) H2 σ2 H2 Sσ.rebase wk_blk _ fun e η2 v H3 hI3 S4 k3 a3 => ?_
          -- the new list is as it was
          have S5 : Sl y.G fp H0 H3 (L2.wipe σ (own.map (·.2))) (wipeR ρ (own.map (·.2))) (η2 ++ [(L, .lst acc)]) :=
            Sl.after (η := η') (ηr := [(L, .lst acc)]) (S3.sub (fun p hp => by
              rcases List.mem_append.mp hp with z | z
              · exact List.mem_cons_of_mem _ z
              · rw [List.mem_singleton] at z
                rw [z]
                exact List.mem_cons_self) (by
              rw [List.map_append, List.nodup_append]
              refine ⟨nd'.2, by simp, fun a ha b hb e => ?_⟩
              rw [List.map_singleton, List.mem_singleton] at hb
              subst e
              rw [hb] at ha
              exact nd'.1 ha)) S4.fr S4.tb S4.st
          have Sf3 : Sl y.G fp H0 H3 σ ρ (η2 ++ [(L, .lst acc)]) :=
            Sl.after (η := η') (ηr := [(L, .lst acc)]) ((Sf.gr g).sub (fun p hp => by
              rcases List.mem_append.mp hp with z | z
              · exact List.mem_cons_of_mem _ z
              · rw [List.mem_singleton] at z
                rw [z]
                exact List.mem_cons_self) (by
              rw [List.map_append, List.nodup_append]
              refine ⟨nd'.2, by simp, fun a ha b hb e => ?_⟩
              rw [List.map_singleton, List.mem_singleton] at hb
              subst e
              rw [hb] at ha
              exact nd'.1 ha)) S4.fr S4.tb S4.st
          have P5 : (η2 ++ [(L, Mo.lst acc)]).Perm ((L, Mo.lst acc) :: η2) := List.perm_append_comm
          have S6 := S5.perm P5
          have Sf6 := Sf3.perm P5
          obtain ⟨ob, eo, xs, rfl, as⟩ := S6.st.at_ L _ List.mem_cons_self
          have pm : ∀ m : Mo, putM L m ((L, Mo.lst acc) :: η2) = (L, m) :: η2 := fun m => by
            unfold putM
            rw [if_pos rfl]
          have aa : D.Ats y.G H3 (acc ++ [e]) (xs ++ [v]) := as.append (D.Ats.one a3)
          have S7 := S6.put (a := L) (m' := .lst (acc ++ [e])) List.mem_cons_self ⟨_, rfl, aa⟩
          have Sf7 := Sf6.put (a := L) (m' := .lst (acc ++ [e])) List.mem_cons_self ⟨_, rfl, aa⟩
          rw [pm] at S7 Sf7
          refine ⟨xs, eo, ?_, acc ++ [e], η2, hI3, S7.1, Sf7.1, (k'.trans g.kp).trans (k3.trans S7.2)⟩
          rw [as.length]
          exact al
      · have ei : i = items.length := by omega
        subst ei
        exact .inl ⟨src.stop fp H0 _ H' _ η' S2 p' k', o (.ref L) _ _ H' (hd acc η' L hI') Sf (k1.trans k') (at_ref.mpr rfl)⟩)
end

/-- some of the store may be forgotten -/
def Lose (R : Sto → Prop) (η : Sto) : Prop := ∃ η1 : Sto, (∀ p ∈ η1, p ∈ η) ∧ ((η.map (·.1)).Nodup → (η1.map (·.1)).Nodup) ∧ R η1
theorem lose_nil {R : Sto → Prop} {η : Sto} (h : R []) : Lose R η := ⟨[], fun _ z => absurd z List.not_mem_nil, fun _ => List.nodup_nil, h⟩
theorem lose_id {R : Sto → Prop} {η : Sto} (h : R η) : Lose R η := ⟨η, fun _ z => z, fun n => n, h⟩
theorem lose_sub {R : Sto → Prop} {η η1 : Sto} (s : η1.Sublist η) (h : R η1) : Lose R η := ⟨η1, fun _ z => s.subset z, fun n => (s.map _).nodup n, h⟩
theorem Ht.lose {G : Gv} {fp : List Addr} {H0 H : Hp} {η : Sto} {R : Sto → Prop} (h : Ht G fp H0 H η) (l : Lose R η) : ∃ η1, R η1 ∧ Ht G fp H0 H η1 := by
  obtain ⟨η1, h1, h2, h3⟩ := l
  exact ⟨η1, h3, ⟨fun a m q => h.at_ a m (h1 _ q), fun a m q => h.own a m (h1 _ q), h2 h.nd⟩⟩
/-! ### a def's promise by its body -/
def rho0 (N : List Str) (ds : List D) : Rho := ds.map some ++ List.replicate (N.length - ds.length) none
theorem Sl.start {G : Gv} {H : Hp} {N : List Str} {ds : List D} {vs : List V} {η : Sto} (a : D.Ats G H ds vs) (tb : Tabs G.T H) (h1 : ∀ p m, (p, m) ∈ η → Held G H p m) (h2 : (η.map (·.1)).Nodup) : Sl G (η.map (·.1)) H H (start N vs) (rho0 N ds) η := by
  refine ⟨Fr.refl, tb, ?_, fun i d h => ?_, ⟨h1, fun a m h => .inl (List.mem_map.mpr ⟨_, h, rfl⟩), h2⟩⟩
  · unfold L2.start rho0
    rw [List.length_append, List.length_append, List.length_map, List.length_map, List.length_replicate, List.length_replicate, a.length]
  · unfold rho0 at h
    unfold L2.start
    by_cases hi : i < ds.length
    · rw [List.getElem?_append_left (by rw [List.length_map]; exact hi), List.getElem?_map, List.getElem?_eq_getElem hi] at h
      cases h
      obtain ⟨v, e, at_⟩ := a.get (List.getElem?_eq_getElem hi)
      refine ⟨v, ?_, at_⟩
      rw [List.getElem?_append_left (by rw [List.length_map, a.length]; exact hi), List.getElem?_map, e]
      rfl
    · rw [List.getElem?_append_right (by rw [List.length_map]; omega)] at h
      have := List.getElem?_eq_some_iff.mp h
      obtain ⟨_, z⟩ := this
      rw [List.getElem_replicate] at z
      cases z
section
variable {P : Program} {w : World} {K : PySem.W.Frag} {mg : Str → Option Value} {base : Heap} {MC : Addr → Prop} {T : List (Addr × Str)}
/-- the body of a def that lets no exception out -/
abbrev yBody (P : Program) (w : World) (K : PySem.W.Frag) (mg : Str → Option Value) (base : Heap) (MC : Addr → Prop) (T : List (Addr × Str)) (N : List Str) (qual : Str) (sc : Scope) (f : Addr) (cdv : Value) (A : Around) (outer : List Env) (s : Shared) (H : Hp) (E : XK) : Sy :=
  { X := (cxOf CX0 P w K mg base N qual sc f cdv A outer s H E).nox, MC := MC, T := T, W := fun _ _ _ _ => False, R := fun _ _ _ _ _ => False }
theorem ok_of {α : Type} {x qual : Str} {st : Stmt} {f : Addr} {fd : FuncData} {N ps : List Str} {k : Nat} (S : FS α) (F : Fun K x qual st f fd) (sc : FnScope N ps (defScope st)) (hl : ∀ a, (S.args a).length = ps.length)
    (body : ∀ (a : α) (cdv : Value) (A : Around) (outer : List Env) (s : Shared) (H : Hp) (E : XK), Room k (A.deeper (envOfC qual (defScope st) s.heap.objs.size f cdv)) →
      SVs (yBody P w K mg base MC T N qual (defScope st) f cdv A outer s H E) (defBody st) (rho0 N (S.args a)) (S.st a) { nx := fun _ η => Lose (S.ret a .non) η, rt := fun d η => Lose (S.ret a d) η }) :
    FnOk P w K mg base CX0 (k + 1) f fd ps (spOf ⟨K, MC, T⟩ S) := by
  refine F.ok sc (fun vs H Q E h => ?_) (fun cdv A outer s H vs Q E hr h => ?_)
  · obtain ⟨a, at_, _⟩ := h
    rw [at_.length, hl]
  · obtain ⟨a, at_, tb, h1, h2, hq, _⟩ := h
    refine ⟨wSs _ (defBody st), pss_w, ?_⟩
    refine body a cdv A outer s H E hr ((S.st a).map fun (x : Addr × Mo) => x.1) H (L2.start N vs) H (Sl.start at_ tb h1 h2) (fun _ _ _ _ _ _ z _ => z.elim) _ ⟨fun ρ η σ H' n S' k' => ?_, fun d ρ η v σ H' n S' k' a' => ?_, fun _ _ _ _ z => z.elim, fun _ _ _ _ z => z.elim⟩
    · obtain ⟨η1, n1, n2⟩ := S'.st.lose n
      exact hq .non η1 .non H' n1 S'.fr S'.tb n2 (at_non.mpr rfl)
    · obtain ⟨η1, n1, n2⟩ := S'.st.lose n
      exact hq d η1 v H' n1 S'.fr S'.tb n2 a'
/-- a def whose code object is known -/
structure FunC (K : PySem.W.Frag) (x qual : Str) (st : Stmt) (f c : Addr) (fd : FuncData) : Prop where
  ex : ∃ (oc : Value) (od : Option Addr) (kV doc pm : Value) (an : Option Addr) (ct : Value) (osl : Array (Option Value)),
    fd = PySem.W.fnOf x qual (defArgs st) (defBody st) (defScope st) .none kV doc pm an (.ref c) ct ∧ K.lookup f = some ⟨oc, od, .func fd, osl⟩ ∧ PySem.W.codeIn K (.ref c) qual = true
  kp : PySem.W.keepIn K (.ref f) = true
theorem FunC.fn {K : PySem.W.Frag} {x qual : Str} {st : Stmt} {f c : Addr} {fd : FuncData} (F : FunC K x qual st f c fd) : Fun K x qual st f fd := by
  obtain ⟨oc, od, kV, doc, pm, an, ct, osl, h1, h2, h3⟩ := F.ex
  exact ⟨⟨oc, od, kV, doc, pm, an, _, ct, osl, h1, h2, h3⟩, F.kp⟩
theorem ok_ofC {α : Type} {x qual : Str} {st : Stmt} {f : Addr} {c : Addr} {fd : FuncData} {N ps : List Str} {k : Nat} (S : FS α) (F : FunC K x qual st f c fd) (sc : FnScope N ps (defScope st)) (hl : ∀ a, (S.args a).length = ps.length)
    (body : ∀ (a : α) (A : Around) (outer : List Env) (s : Shared) (H : Hp) (E : XK), Room k (A.deeper (envOfC qual (defScope st) s.heap.objs.size f (.ref c))) →
      SVs (yBody P w K mg base MC T N qual (defScope st) f (.ref c) A outer s H E) (defBody st) (rho0 N (S.args a)) (S.st a) { nx := fun _ η => Lose (S.ret a .non) η, rt := fun d η => Lose (S.ret a d) η }) :
    FnOk P w K mg base CX0 (k + 1) f fd ps (spOf ⟨K, MC, T⟩ S) := by
  obtain ⟨oc, od, kV, doc, pm, an, ct, osl, rfl, lk, hcd⟩ := F.ex
  refine fn_of lk hcd sc (fun vs H Q E h => ?_) fun A outer s H vs Q E hr h => ?_
  · obtain ⟨a, at_, _⟩ := h
    rw [at_.length, hl]
  · obtain ⟨a, at_, tb, h1, h2, hq, _⟩ := h
    refine ⟨_, (pss_w (X := (cxOf CX0 P w K mg base N qual (defScope st) f (.ref c) A outer s H E).nox) (sts := defBody st)).nox, ?_⟩
    refine body a A outer s H E hr ((S.st a).map fun (x : Addr × Mo) => x.1) H (L2.start N vs) H (Sl.start at_ tb h1 h2) (fun _ _ _ _ _ _ z _ => z.elim) _ ⟨fun ρ η σ H' n S' k' => ?_, fun d ρ η v σ H' n S' k' a' => ?_, fun _ _ _ _ z => z.elim, fun _ _ _ _ z => z.elim⟩
    · obtain ⟨η1, n1, n2⟩ := S'.st.lose n
      exact hq .non η1 .non H' n1 S'.fr S'.tb n2 (at_non.mpr rfl)
    · obtain ⟨η1, n1, n2⟩ := S'.st.lose n
      exact hq d η1 v H' n1 S'.fr S'.tb n2 a'
end
end Sx

/-! S5: operations on values: what each asks and gives. -/
namespace Sx
open PySem PySem.Spec PyProof.Rows L2
open LamX (Tabs TabS)
section
variable {y : Sy} {ρ : Rho} {η : Sto} {Q : D → Sto → Prop}
theorem two_of {G : Gv} {H : Hp} {a b : D} {xs : List V} (h : D.Ats G H [a, b] xs) : ∃ x z, xs = [x, z] ∧ D.At G H a x ∧ D.At G H b z := by
  obtain ⟨x, ys, rfl, z1, z2⟩ := ats_cons.mp h
  obtain ⟨x', ys, rfl, z3, z4⟩ := ats_cons.mp z2
  rw [ats_nil.mp z4]
  exact ⟨x, x', rfl, z1, z3⟩
theorem one_of {G : Gv} {H : Hp} {a : D} {xs : List V} (h : D.Ats G H [a] xs) : ∃ x, xs = [x] ∧ D.At G H a x := by
  obtain ⟨x, ys, rfl, z1, z2⟩ := ats_cons.mp h
  rw [ats_nil.mp z2]
  exact ⟨x, rfl, z1⟩
/-! arithmetic -/
theorem opw_I {f : Value → Value → Sem Value} {C : Int → Int → Prop} {g : Int → Int → V} {gd : Int → Int → D} {i j : Int} (p : OpR y.X f (rI C g)) (hg : ∀ H, D.At y.G H (gd i j) (g i j)) (hc : C i j) (h : Q (gd i j) η) : OpW y f (.int i) (.int j) ρ η Q := fun fp H0 σ H S w Qv o x x' a b =>
  wO_of p ⟨i, j, at_int.mp a, at_int.mp b, hc, o _ η _ H h S Kp.refl (hg H)⟩
theorem opw_I0 {f : Value → Value → Sem Value} {g : Int → Int → V} {gd : Int → Int → D} {i j : Int} (p : OpR y.X f (rI0 g)) (hg : ∀ H, D.At y.G H (gd i j) (g i j)) (h : Q (gd i j) η) : OpW y f (.int i) (.int j) ρ η Q := fun fp H0 σ H S w Qv o x x' a b =>
  wO_of p ⟨i, j, at_int.mp a, at_int.mp b, o _ η _ H h S Kp.refl (hg H)⟩
variable {i j : Int}
theorem opw_add (h : Q (.int (i + j)) η) : OpW y (binaryOp .Add) (.int i) (.int j) ρ η Q := opw_I0 (gd := fun i j => .int (i + j)) op_add (fun _ => at_int.mpr rfl) h
theorem opw_sub (h : Q (.int (i - j)) η) : OpW y (binaryOp .Sub) (.int i) (.int j) ρ η Q := opw_I0 (gd := fun i j => .int (i - j)) op_sub (fun _ => at_int.mpr rfl) h
theorem opw_mul (hc : CMul i j) (h : Q (.int (i * j)) η) : OpW y (binaryOp .Mult) (.int i) (.int j) ρ η Q := opw_I (gd := fun i j => .int (i * j)) op_mul (fun _ => at_int.mpr rfl) hc h
theorem opw_mod (hc : j ≠ 0) (h : Q (.int (i.fmod j)) η) : OpW y (binaryOp .Mod) (.int i) (.int j) ρ η Q := opw_I (gd := fun i j => .int (i.fmod j)) op_modN (fun _ => at_int.mpr rfl) hc h
theorem opw_fdiv (hc : CDivN i j) (h : Q (.int (i.fdiv j)) η) : OpW y (binaryOp .FloorDiv) (.int i) (.int j) ρ η Q := opw_I (gd := fun i j => .int (i.fdiv j)) op_fdivN (fun _ => at_int.mpr rfl) hc h
theorem opw_pow (hc : CPow i j) (h : Q (.int (i ^ j.toNat)) η) : OpW y (binaryOp .Pow) (.int i) (.int j) ρ η Q := opw_I (gd := fun i j => .int (i ^ j.toNat)) op_pow (fun _ => at_int.mpr rfl) hc h
theorem unw_neg (h : Q (.int (-i)) η) : UnW y (unaryOp .USub) (.int i) ρ η Q := fun fp H0 σ H S w Qv o x a => wU_of un_neg ⟨i, at_int.mp a, o _ η _ H h S Kp.refl (at_int.mpr rfl)⟩
theorem opw_addS {x z : Str} (hz : x.length + z.length ≤ sizeLine) (h : Q (.str (x ++ z)) η) : OpW y (binaryOp .Add) (.str x) (.str z) ρ η Q := fun fp H0 σ H S w Qv o v v' a b =>
  wO_of op_add_str ⟨x, z, at_str.mp a, at_str.mp b, hz, o _ η _ H h S Kp.refl (at_str.mpr rfl)⟩
theorem opw_catL {a b : Addr} {ds es : List D} (ha : (a, .lst ds) ∈ η) (hb : (b, .lst es) ∈ η) (hz : ds.length + es.length ≤ sizeLine) (h : ∀ p, Q (.ref p) ((p, .lst (ds ++ es)) :: η)) : OpW y (binaryOp .Add) (.ref a) (.ref b) ρ η Q := fun fp H0 σ H S w Qv o v v' av bv => by
  obtain ⟨_, e1, xs, rfl, as⟩ := S.st.at_ _ _ ha
  obtain ⟨_, e2, zs, rfl, bs⟩ := S.st.at_ _ _ hb
  exact wO_of op_cat ⟨a, b, xs, zs, at_ref.mp av, at_ref.mp bv, e1, e2, by rw [as.length, bs.length]; exact hz, fun p np => o _ _ _ _ (h p) (S.alloc np ⟨_, rfl, as.append bs⟩) (Gr.new np : Gr y.G H _).kp (at_ref.mpr rfl)⟩
theorem ats_flat {G : Gv} {H : Hp} {ds : List D} {xs : List V} (as : D.Ats G H ds xs) : ∀ n : Nat, D.Ats G H (List.replicate n ds).flatten (List.replicate n xs).flatten
  | 0 => ats_nil.mpr rfl
  | n + 1 => by
    rw [List.replicate_succ, List.replicate_succ, List.flatten_cons, List.flatten_cons]
    exact as.append (ats_flat as n)
theorem opw_repL {a : Addr} {ds : List D} (ha : (a, .lst ds) ∈ η) (h1 : -(2 ^ 63) ≤ j) (h2 : j < 2 ^ 63) (hz : ds.length * j.toNat ≤ sizeLine) (h : ∀ p, Q (.ref p) ((p, .lst (List.replicate j.toNat ds).flatten) :: η)) : OpW y (binaryOp .Mult) (.ref a) (.int j) ρ η Q := fun fp H0 σ H S w Qv o v v' av bv => by
  obtain ⟨_, e1, xs, rfl, as⟩ := S.st.at_ _ _ ha
  exact wO_of op_rep ⟨a, j, xs, at_ref.mp av, at_int.mp bv, e1, h1, h2, by rw [as.length]; exact hz, fun p np => o _ _ _ _ (h p) (S.alloc np ⟨_, rfl, ats_flat as _⟩) (Gr.new np : Gr y.G H _).kp (at_ref.mpr rfl)⟩
theorem opw_catT {ds es : List D} (h0 : ds ≠ []) (hz : ds.length + es.length ≤ sizeLine) (h : Q (.tup (ds ++ es)) η) : OpW y (binaryOp .Add) (.tup ds) (.tup es) ρ η Q := fun fp H0 σ H S w Qv o v v' av bv => by
  obtain ⟨a, xs, rfl, sa, as⟩ := at_tup.mp av
  obtain ⟨b, zs, rfl, sb, bs⟩ := at_tup.mp bv
  refine wO_of op_catT ⟨a, b, xs, zs, rfl, rfl, sa, sb, fun e => h0 ?_, by rw [as.length, bs.length]; exact hz, fun e => ?_, fun e p np => ?_⟩
  · have := as.length
    rw [e] at this
    exact List.length_eq_zero_iff.mp this.symm
  · have : es = [] := by
      have := bs.length
      rw [e] at this
      exact List.length_eq_zero_iff.mp this.symm
    subst this
    exact o _ η _ H h S Kp.refl (by rw [List.append_nil]; exact av)
  · have g : Gr y.G H (upd H p (.tup (xs ++ zs))) := Gr.new np
    exact o _ η _ _ h (S.gr g) g.kp (at_tup.mpr ⟨p, _, rfl, SqT.of upd_same, (as.append bs).kp g.kp⟩)
/-! comparisons -/
theorem opw_lt (h : Q (.bl (decide (i < j))) η) : OpW y (compareOp .Lt) (.int i) (.int j) ρ η Q := opw_I0 (gd := fun i j => .bl (decide (i < j))) op_lt (fun _ => at_bl.mpr rfl) h
theorem opw_le (h : Q (.bl (decide (i ≤ j))) η) : OpW y (compareOp .LtE) (.int i) (.int j) ρ η Q := opw_I0 (gd := fun i j => .bl (decide (i ≤ j))) op_le (fun _ => at_bl.mpr rfl) h
theorem opw_gt (h : Q (.bl (decide (j < i))) η) : OpW y (compareOp .Gt) (.int i) (.int j) ρ η Q := opw_I0 (gd := fun i j => .bl (decide (j < i))) op_gt (fun _ => at_bl.mpr rfl) h
theorem opw_ge (h : Q (.bl (decide (j ≤ i))) η) : OpW y (compareOp .GtE) (.int i) (.int j) ρ η Q := opw_I0 (gd := fun i j => .bl (decide (j ≤ i))) op_ge (fun _ => at_bl.mpr rfl) h
theorem opw_eqI (h : Q (.bl (decide (i = j))) η) : OpW y (compareOp .Eq) (.int i) (.int j) ρ η Q := fun fp H0 σ H S w Qv o x x' a b => by
  rw [at_int.mp a, at_int.mp b]
  refine wO_of op_eq ⟨rfl, o _ η _ H h S Kp.refl (at_bl.mpr (congrArg V.bl ?_))⟩
  by_cases e : i = j
  · subst e; simp
  · rw [decide_eq_false e, decide_eq_false fun z => e (V.int.inj z)]
theorem opw_neI (h : Q (.bl (!decide (i = j))) η) : OpW y (compareOp .NotEq) (.int i) (.int j) ρ η Q := fun fp H0 σ H S w Qv o x x' a b => by
  rw [at_int.mp a, at_int.mp b]
  refine wO_of op_ne ⟨rfl, o _ η _ H h S Kp.refl (at_bl.mpr (congrArg V.bl ?_))⟩
  by_cases e : i = j
  · subst e; simp
  · rw [decide_eq_false e, decide_eq_false fun z => e (V.int.inj z)]
theorem opw_eqS {x z : Str} (h : Q (.bl (decide (x = z))) η) : OpW y (compareOp .Eq) (.str x) (.str z) ρ η Q := fun fp H0 σ H S w Qv o v v' a b => by
  rw [at_str.mp a, at_str.mp b]
  refine wO_of op_eq ⟨rfl, o _ η _ H h S Kp.refl (at_bl.mpr (congrArg V.bl ?_))⟩
  by_cases e : x = z
  · subst e; simp
  · rw [decide_eq_false e, decide_eq_false fun z => e (V.str.inj z)]
theorem opw_neS {x z : Str} (h : Q (.bl (!decide (x = z))) η) : OpW y (compareOp .NotEq) (.str x) (.str z) ρ η Q := fun fp H0 σ H S w Qv o v v' a b => by
  rw [at_str.mp a, at_str.mp b]
  refine wO_of op_ne ⟨rfl, o _ η _ H h S Kp.refl (at_bl.mpr (congrArg V.bl ?_))⟩
  by_cases e : x = z
  · subst e; simp
  · rw [decide_eq_false e, decide_eq_false fun z => e (V.str.inj z)]
def D.isN : D → Bool
  | .non => true
  | _ => false
theorem isN_at {G : Gv} {H : Hp} {d : D} {v : V} (h : D.At G H d v) : decide (v = .non) = d.isN := by
  cases d with
  | non => rw [at_non.mp h]; rfl
  | bl _ => rw [at_bl.mp h]; rfl
  | int _ => rw [at_int.mp h]; rfl
  | str _ => rw [at_str.mp h]; rfl
  | ref _ => rw [at_ref.mp h]; rfl
  | ty _ => rw [at_ty.mp h]; rfl
  | tup _ => obtain ⟨a, xs, rfl, _⟩ := at_tup.mp h; rfl
  | ins _ _ => obtain ⟨a, dx, xs, rfl, _⟩ := at_ins.mp h; rfl
  | ro _ => obtain ⟨a, xs, rfl, _⟩ := at_ro.mp h; rfl
theorem opw_isN {d : D} (h : Q (.bl d.isN) η) : OpW y (compareOp .Is) d .non ρ η Q := fun fp H0 σ H S w Qv o x x' a b =>
  wO_of op_isN ⟨at_non.mp b, o _ η _ H h S Kp.refl (at_bl.mpr (by rw [isN_at a]))⟩
theorem opw_notN {d : D} (h : Q (.bl (!d.isN)) η) : OpW y (compareOp .IsNot) d .non ρ η Q := fun fp H0 σ H S w Qv o x x' a b =>
  wO_of op_notN ⟨at_non.mp b, o _ η _ H h S Kp.refl (at_bl.mpr (by rw [isN_at a]))⟩
theorem opw_inC {c : Nat} {z : Str} (h : Q (.bl (decide (c ∈ z.cps.toList))) η) : OpW y (compareOp .In) (.str ⟨#[c]⟩) (.str z) ρ η Q := fun fp H0 σ H S w Qv o v v' a b =>
  wO_of op_in_sign ⟨c, z, at_str.mp a, at_str.mp b, o _ η _ H h S Kp.refl (at_bl.mpr rfl)⟩
theorem opw_ninC {c : Nat} {z : Str} (h : Q (.bl (!decide (c ∈ z.cps.toList))) η) : OpW y (compareOp .NotIn) (.str ⟨#[c]⟩) (.str z) ρ η Q := fun fp H0 σ H S w Qv o v v' a b =>
  wO_of op_notIn_sign ⟨c, z, at_str.mp a, at_str.mp b, o _ η _ H h S Kp.refl (at_bl.mpr rfl)⟩
/-! data as a whole -/
mutual
inductive PdAt (η : Sto) : D → PyData → Prop
  | non : PdAt η .non .none
  | bl (b : Bool) : PdAt η (.bl b) (.bool b)
  | int (i : Int) : PdAt η (.int i) (.int i)
  | str (x : Str) : PdAt η (.str x) (.str x)
  | tup {ds : List D} {xs : List PyData} : PdAll η ds xs → PdAt η (.tup ds) (.tuple xs)
  | lst {a : Addr} {ds : List D} {xs : List PyData} : (a, .lst ds) ∈ η → PdAll η ds xs → PdAt η (.ref a) (.list xs)
inductive PdAll (η : Sto) : List D → List PyData → Prop
  | nil : PdAll η [] []
  | cons {d : D} {ds : List D} {x : PyData} {xs : List PyData} : PdAt η d x → PdAll η ds xs → PdAll η (d :: ds) (x :: xs)
end
mutual
theorem PdAt.dp {G : Gv} {fp : List Addr} {H0 H : Hp} {σ : L2.St} {ρ : Rho} {η : Sto} (S : Sl G fp H0 H σ ρ η) : ∀ {d : D} {x : PyData} {v : V}, PdAt η d x → D.At G H d v → Dp G.K H v x
  | _, _, _, .non, a => by rw [at_non.mp a]; exact .non
  | _, _, _, .bl b, a => by rw [at_bl.mp a]; exact .bl b
  | _, _, _, .int i, a => by rw [at_int.mp a]; exact .int i
  | _, _, _, .str i, a => by rw [at_str.mp a]; exact .str i
  | _, _, _, .tup h, a => by
    obtain ⟨p, xs, rfl, s, as⟩ := at_tup.mp a
    exact .tup s (PdAll.dp S h as)
  | _, _, _, .lst m h, a => by
    rw [at_ref.mp a]
    obtain ⟨_, e1, xs, rfl, as⟩ := S.st.at_ _ _ m
    exact .lst (SqL.of e1) (PdAll.dp S h as)
theorem PdAll.dp {G : Gv} {fp : List Addr} {H0 H : Hp} {σ : L2.St} {ρ : Rho} {η : Sto} (S : Sl G fp H0 H σ ρ η) : ∀ {ds : List D} {xs : List PyData} {vs : List V}, PdAll η ds xs → D.Ats G H ds vs → DpAll G.K H vs xs
  | _, _, _, .nil, a => by rw [ats_nil.mp a]; exact .nil
  | _, _, _, .cons h hs, a => by
    obtain ⟨x, ys, rfl, a1, a2⟩ := ats_cons.mp a
    exact .cons (PdAt.dp S h a1) (PdAll.dp S hs a2)
end
theorem opw_eqD {a b : D} {x z : PyData} (hu : y.X.A.units + 64 < cLine) (ha : PdAt η a x) (hb : PdAt η b z) (h1 : SeqAt.shaped x = true) (h2 : SeqAt.shaped z = true) (h : Q (.bl (PyData.eqv x z)) η) : OpW y (compareOp .Eq) a b ρ η Q := fun fp H0 σ H S w Qv o v v' av bv =>
  wO_of (op_eqD hu) ⟨x, z, ha.dp S av, hb.dp S bv, h1, h2, o _ η _ H h S Kp.refl (at_bl.mpr rfl)⟩
theorem opw_neD {a b : D} {x z : PyData} (hu : y.X.A.units + 64 < cLine) (ha : PdAt η a x) (hb : PdAt η b z) (h1 : SeqAt.shaped x = true) (h2 : SeqAt.shaped z = true) (h : Q (.bl (!PyData.eqv x z)) η) : OpW y (compareOp .NotEq) a b ρ η Q := fun fp H0 σ H S w Qv o v v' av bv =>
  wO_of (op_neD hu) ⟨x, z, ha.dp S av, hb.dp S bv, h1, h2, o _ η _ H h S Kp.refl (at_bl.mpr rfl)⟩
/-! calls -/
theorem cw_lenL {a : Addr} {ds : List D} (ha : (a, .lst ds) ∈ η) (h : Q (.int (ds.length : Int)) η) : CallW y (.builtin "len") [.ref a] ρ η Q := fun fp H0 σ H S w Qv o vs av => by
  obtain ⟨x, rfl, ax⟩ := one_of av
  obtain ⟨_, e1, xs, rfl, as⟩ := S.st.at_ _ _ ha
  rw [at_ref.mp ax]
  exact wC_of call_len ⟨_, xs.length, rfl, .inl ⟨xs, SqL.of e1, rfl⟩, o _ η _ H h S Kp.refl (at_int.mpr (by rw [as.length]))⟩
theorem cw_lenT {ds : List D} (h : Q (.int (ds.length : Int)) η) : CallW y (.builtin "len") [.tup ds] ρ η Q := fun fp H0 σ H S w Qv o vs av => by
  obtain ⟨x, rfl, ax⟩ := one_of av
  obtain ⟨p, xs, rfl, s, as⟩ := at_tup.mp ax
  exact wC_of call_len ⟨_, xs.length, rfl, .inr ⟨xs, s, rfl⟩, o _ η _ H h S Kp.refl (at_int.mpr (by rw [as.length]))⟩
theorem cw_lenS {x : Str} (hz : x.length ≤ sizeLine) (h : Q (.int (x.length : Int)) η) : CallW y (.builtin "len") [.str x] ρ η Q := fun fp H0 σ H S w Qv o vs av => by
  obtain ⟨v, rfl, ax⟩ := one_of av
  rw [at_str.mp ax]
  exact wC_of call_len ⟨_, x.length, rfl, ⟨hz, rfl⟩, o _ η _ H h S Kp.refl (at_int.mpr rfl)⟩
theorem cw_int (h : Q (.int i) η) : CallW y (.type "int") [.int i] ρ η Q := fun fp H0 σ H S w Qv o vs av => by
  obtain ⟨v, rfl, ax⟩ := one_of av
  rw [at_int.mp ax]
  exact wC_of call_int1 (.inl ⟨i, rfl, o _ η _ H h S Kp.refl (at_int.mpr rfl)⟩)
theorem cw_intB {k : Bool} (h : Q (.int (if k then 1 else 0)) η) : CallW y (.type "int") [.bl k] ρ η Q := fun fp H0 σ H S w Qv o vs av => by
  obtain ⟨v, rfl, ax⟩ := one_of av
  rw [at_bl.mp ax]
  exact wC_of call_int1 (.inr ⟨k, rfl, o _ η _ H h S Kp.refl (at_int.mpr rfl)⟩)
theorem cw_intS {x : Str} {n : Int} (hn : PySem.intText? x = some n) (hz : x.length ≤ 640) (h : Q (.int n) η) : CallW y (.type "int") [.str x] ρ η Q := fun fp H0 σ H S w Qv o vs av => by
  obtain ⟨v, rfl, ax⟩ := one_of av
  rw [at_str.mp ax]
  exact wC_of call_int_str ⟨x, n, rfl, hn, hz, o _ η _ H h S Kp.refl (at_int.mpr rfl)⟩
theorem cw_strI (hz : i.natAbs.log2 < 1920) (h : Q (.str (toString i)) η) : CallW y (.type "str") [.int i] ρ η Q := fun fp H0 σ H S w Qv o vs av => by
  obtain ⟨v, rfl, ax⟩ := one_of av
  rw [at_int.mp ax]
  exact wC_of call_str_int ⟨i, rfl, hz, o _ η _ H h S Kp.refl (at_str.mpr rfl)⟩
theorem cw_abs (h : Q (.int (if i < 0 then -i else i)) η) : CallW y (.builtin "abs") [.int i] ρ η Q := fun fp H0 σ H S w Qv o vs av => by
  obtain ⟨v, rfl, ax⟩ := one_of av
  rw [at_int.mp ax]
  exact wC_of call_abs ⟨i, rfl, o _ η _ H h S Kp.refl (at_int.mpr rfl)⟩
theorem cw_max {a : Addr} {ns : List Int} (hc : y.X.calm = true) (ha : (a, .lst (ns.map D.int)) ∈ η) (h0 : 0 < ns.length) (h : ∀ m, m ∈ ns → (∀ k ∈ ns, k ≤ m) → Q (.int m) η) : CallW y (.builtin "max") [.ref a] ρ η Q := fun fp H0 σ H S w Qv o vs av => by
  obtain ⟨x, rfl, ax⟩ := one_of av
  obtain ⟨_, e1, xs, rfl, as⟩ := S.st.at_ _ _ ha
  rw [D.Ats.ints.mp as] at e1
  rw [at_ref.mp ax]
  exact wC_of (cr_max hc) ⟨a, ns, rfl, SqL.of e1, h0, fun m m1 m2 => o _ η _ H (h m m1 m2) S Kp.refl (at_int.mpr rfl)⟩
theorem cw_min {a : Addr} {ns : List Int} (hc : y.X.calm = true) (ha : (a, .lst (ns.map D.int)) ∈ η) (h0 : 0 < ns.length) (h : ∀ m, m ∈ ns → (∀ k ∈ ns, m ≤ k) → Q (.int m) η) : CallW y (.builtin "min") [.ref a] ρ η Q := fun fp H0 σ H S w Qv o vs av => by
  obtain ⟨x, rfl, ax⟩ := one_of av
  obtain ⟨_, e1, xs, rfl, as⟩ := S.st.at_ _ _ ha
  rw [D.Ats.ints.mp as] at e1
  rw [at_ref.mp ax]
  exact wC_of (cr_min hc) ⟨a, ns, rfl, SqL.of e1, h0, fun m m1 m2 => o _ η _ H (h m m1 m2) S Kp.refl (at_int.mpr rfl)⟩
theorem cw_max2 {a : Addr} (hc : y.X.calm = true) (ha : (a, .lst [.int i, .int j]) ∈ η) (h : Q (.int (max i j)) η) : CallW y (.builtin "max") [.ref a] ρ η Q :=
  cw_max (ns := [i, j]) hc ha (Nat.succ_pos _) fun m m1 m2 => by
    have e : m = max i j := by
      have h1 := m2 i (by simp)
      have h2 := m2 j (by simp)
      rcases List.mem_cons.mp m1 with rfl | m1
      · rw [Int.max_def]; split <;> omega
      · rw [List.mem_singleton] at m1
        subst m1
        rw [Int.max_def]; split <;> omega
    rw [e]; exact h
theorem cw_min2 {a : Addr} (hc : y.X.calm = true) (ha : (a, .lst [.int i, .int j]) ∈ η) (h : Q (.int (min i j)) η) : CallW y (.builtin "min") [.ref a] ρ η Q :=
  cw_min (ns := [i, j]) hc ha (Nat.succ_pos _) fun m m1 m2 => by
    have e : m = min i j := by
      have h1 := m2 i (by simp)
      have h2 := m2 j (by simp)
      rcases List.mem_cons.mp m1 with rfl | m1
      · rw [Int.min_def]; split <;> omega
      · rw [List.mem_singleton] at m1
        subst m1
        rw [Int.min_def]; split <;> omega
    rw [e]; exact h
theorem ats_bls {G : Gv} {H : Hp} : ∀ {ns : List Bool} {xs : List V}, D.Ats G H (ns.map D.bl) xs → xs = ns.map V.bl
  | [], xs, h => ats_nil.mp h
  | n :: ns, xs, h => by
    rw [List.map_cons] at h
    obtain ⟨x, ys, rfl, a, r⟩ := ats_cons.mp h
    rw [at_bl.mp a, ats_bls r]
    rfl
theorem cw_any {a : Addr} {bs : List Bool} (hc : y.X.calm = true) (ha : (a, .lst (bs.map D.bl)) ∈ η) (h : Q (.bl (bs.any id)) η) : CallW y (.builtin "any") [.ref a] ρ η Q := fun fp H0 σ H S w Qv o vs av => by
  obtain ⟨x, rfl, ax⟩ := one_of av
  obtain ⟨_, e1, xs, rfl, as⟩ := S.st.at_ _ _ ha
  rw [ats_bls as] at e1
  rw [at_ref.mp ax]
  exact wC_of (cr_any hc) ⟨a, bs, rfl, SqL.of e1, o _ η _ H h S Kp.refl (at_bl.mpr rfl)⟩
theorem cw_all {a : Addr} {bs : List Bool} (hc : y.X.calm = true) (ha : (a, .lst (bs.map D.bl)) ∈ η) (h : Q (.bl (bs.all id)) η) : CallW y (.builtin "all") [.ref a] ρ η Q := fun fp H0 σ H S w Qv o vs av => by
  obtain ⟨x, rfl, ax⟩ := one_of av
  obtain ⟨_, e1, xs, rfl, as⟩ := S.st.at_ _ _ ha
  rw [ats_bls as] at e1
  rw [at_ref.mp ax]
  exact wC_of (cr_all hc) ⟨a, bs, rfl, SqL.of e1, o _ η _ H h S Kp.refl (at_bl.mpr rfl)⟩
theorem cw_sortI {a : Addr} {ns : List Int} (ha : (a, .lst (ns.map D.int)) ∈ η) (h : ∀ (ns' : List Int) (p : Addr), ns'.Perm ns → ns'.Pairwise (· ≤ ·) → Q (.ref p) ((p, .lst (ns'.map D.int)) :: η)) : CallW y (.builtin "sorted") [.ref a] ρ η Q := fun fp H0 σ H S w Qv o vs av => by
  obtain ⟨x, rfl, ax⟩ := one_of av
  obtain ⟨_, e1, xs, rfl, as⟩ := S.st.at_ _ _ ha
  rw [D.Ats.ints.mp as] at e1
  rw [at_ref.mp ax]
  exact wC_of cr_sortedI ⟨a, ns, rfl, SqL.of e1, fun ns' p h1 h2 np => o _ _ _ _ (h ns' p h1 h2) (S.alloc np ⟨_, rfl, D.Ats.ints.mpr rfl⟩) (Gr.new np : Gr y.G H _).kp (at_ref.mpr rfl)⟩
theorem cw_tupL {a : Addr} {ds : List D} (ha : (a, .lst ds) ∈ η) (h : Q (.tup ds) η) : CallW y (.type "tuple") [.ref a] ρ η Q := fun fp H0 σ H S w Qv o vs av => by
  obtain ⟨x, rfl, ax⟩ := one_of av
  obtain ⟨_, e1, xs, rfl, as⟩ := S.st.at_ _ _ ha
  rw [at_ref.mp ax]
  refine wC_of call_tuple_of ⟨a, xs, rfl, .inl ⟨SqL.of e1, fun l nl => ?_⟩⟩
  have g : Gr y.G H (upd H l (.tup xs)) := Gr.new nl
  exact o _ η _ _ h (S.gr g) g.kp (at_tup.mpr ⟨l, xs, rfl, SqT.of upd_same, as.kp g.kp⟩)
theorem cw_lstT {ds : List D} (h : ∀ p, Q (.ref p) ((p, .lst ds) :: η)) : CallW y (.type "list") [.tup ds] ρ η Q := fun fp H0 σ H S w Qv o vs av => by
  obtain ⟨x, rfl, ax⟩ := one_of av
  obtain ⟨a, xs, rfl, s, as⟩ := at_tup.mp ax
  exact wC_of call_list_of ⟨a, xs, rfl, .inr s, fun l nl => o _ _ _ _ (h l) (S.alloc nl ⟨xs, rfl, as⟩) (Gr.new nl : Gr y.G H _).kp (at_ref.mpr rfl)⟩
theorem cw_lstL {a : Addr} {ds : List D} (ha : (a, .lst ds) ∈ η) (h : ∀ p, Q (.ref p) ((p, .lst ds) :: η)) : CallW y (.type "list") [.ref a] ρ η Q := fun fp H0 σ H S w Qv o vs av => by
  obtain ⟨x, rfl, ax⟩ := one_of av
  obtain ⟨_, e1, xs, rfl, as⟩ := S.st.at_ _ _ ha
  rw [at_ref.mp ax]
  exact wC_of call_list_of ⟨a, xs, rfl, .inl (SqL.of e1), fun l nl => o _ _ _ _ (h l) (S.alloc nl ⟨xs, rfl, as⟩) (Gr.new nl : Gr y.G H _).kp (at_ref.mpr rfl)⟩
/-! methods -/
theorem mw_append {a : Addr} {ds : List D} {d : D} (ha : (a, .lst ds) ∈ η) (hz : ds.length < sizeLine) (h : Q .non (putM a (.lst (ds ++ [d])) η)) : MtW y "list.append" (.ref a) [d] ρ η Q := fun fp H0 σ H S w Qv o v vs av bv => by
  obtain ⟨x, rfl, ax⟩ := one_of bv
  obtain ⟨_, e1, xs, rfl, as⟩ := S.st.at_ _ _ ha
  have P := S.put (m' := .lst (ds ++ [d])) ha ⟨_, rfl, as.append (D.Ats.one ax)⟩
  exact wM_of mt_append ⟨a, xs, x, at_ref.mp av, rfl, e1, by rw [as.length]; exact hz, o _ _ _ _ h P.1 P.2 (at_non.mpr rfl)⟩
theorem mw_extend {a b : Addr} {ds es : List D} (ha : (a, .lst ds) ∈ η) (hb : (b, .lst es) ∈ η) (hz : ds.length + es.length ≤ sizeLine) (h : Q .non (putM a (.lst (ds ++ es)) η)) : MtW y "list.extend" (.ref a) [.ref b] ρ η Q := fun fp H0 σ H S w Qv o v vs av bv => by
  obtain ⟨x, rfl, ax⟩ := one_of bv
  obtain ⟨_, e1, xs, rfl, as⟩ := S.st.at_ _ _ ha
  obtain ⟨_, e2, zs, rfl, bs⟩ := S.st.at_ _ _ hb
  have P := S.put (m' := .lst (ds ++ es)) ha ⟨_, rfl, as.append bs⟩
  exact wM_of mt_extend ⟨a, b, xs, zs, at_ref.mp av, by rw [at_ref.mp ax], e1, e2, by rw [as.length, bs.length]; exact hz, o _ _ _ _ h P.1 P.2 (at_non.mpr rfl)⟩
theorem mw_pop {a : Addr} {ds : List D} {d : D} (ha : (a, .lst (ds ++ [d])) ∈ η) (h : Q d (putM a (.lst ds) η)) : MtW y "list.pop" (.ref a) [] ρ η Q := fun fp H0 σ H S w Qv o v vs av bv => by
  obtain ⟨_, e1, xs, rfl, as⟩ := S.st.at_ _ _ ha
  have hl : xs.length = ds.length + 1 := by rw [as.length, List.length_append]; rfl
  obtain ⟨z, ez, az⟩ := as.get (i := ds.length) (d := d) (by simp)
  have P := S.put (m' := .lst ds) (o' := .lst xs.dropLast) ha ⟨_, rfl, by
    have t := D.Ats.take ds.length as
    rw [List.take_left' rfl] at t
    rw [List.dropLast_eq_take, hl, Nat.add_sub_cancel]
    exact t⟩
  exact wM_of mt_pop ⟨a, xs, z, at_ref.mp av, ats_nil.mp bv, e1, by rw [hl, Nat.add_sub_cancel]; exact ez, o _ _ _ _ h P.1 P.2 (az.kp P.2)⟩
theorem mw_split {x z : Str} (h0 : (z.length == 0) = false) (hz : x.length + 2 ≤ sizeLine) (h : ∀ p, Q (.ref p) ((p, .lst ((Txt.split x z).map D.str)) :: η)) : MtW y "str.split" (.str x) [.str z] ρ η Q := fun fp H0 σ H S w Qv o v vs av bv => by
  obtain ⟨u, rfl, ax⟩ := one_of bv
  exact wM_of mt_split ⟨x, z, at_str.mp av, by rw [at_str.mp ax], h0, hz, fun p np => o _ _ _ _ (h p) (S.alloc np ⟨_, rfl, D.Ats.strs.mpr rfl⟩) (Gr.new np : Gr y.G H _).kp (at_ref.mpr rfl)⟩
theorem mw_join {x : Str} {a : Addr} {zs : List Str} (ha : (a, .lst (zs.map D.str)) ∈ η) (hz : (zs.map (·.length)).sum + zs.length * x.length ≤ 16777216) (h : Q (.str (Txt.join x zs)) η) : MtW y "str.join" (.str x) [.ref a] ρ η Q := fun fp H0 σ H S w Qv o v vs av bv => by
  obtain ⟨u, rfl, ax⟩ := one_of bv
  obtain ⟨_, e1, xs, rfl, as⟩ := S.st.at_ _ _ ha
  rw [D.Ats.strs.mp as] at e1
  exact wM_of mt_join ⟨x, a, zs, at_str.mp av, by rw [at_ref.mp ax], .inl (SqL.of e1), hz, o _ _ _ _ h S Kp.refl (at_str.mpr rfl)⟩
theorem mw_joinT {x : Str} {zs : List Str} (hz : (zs.map (·.length)).sum + zs.length * x.length ≤ 16777216) (h : Q (.str (Txt.join x zs)) η) : MtW y "str.join" (.str x) [.tup (zs.map D.str)] ρ η Q := fun fp H0 σ H S w Qv o v vs av bv => by
  obtain ⟨u, rfl, ax⟩ := one_of bv
  obtain ⟨a, xs, rfl, s, as⟩ := at_tup.mp ax
  rw [D.Ats.strs.mp as] at s
  exact wM_of mt_join ⟨x, a, zs, at_str.mp av, rfl, .inr s, hz, o _ _ _ _ h S Kp.refl (at_str.mpr rfl)⟩
theorem mw_removeprefix {x z : Str} (hz : x.length ≤ sizeLine) (h : Q (.str (Txt.removeprefix x z)) η) : MtW y "str.removeprefix" (.str x) [.str z] ρ η Q := fun fp H0 σ H S w Qv o v vs av bv => by
  obtain ⟨u, rfl, ax⟩ := one_of bv
  exact wM_of mt_removeprefix ⟨x, z, at_str.mp av, by rw [at_str.mp ax], hz, o _ _ _ _ h S Kp.refl (at_str.mpr rfl)⟩
/-! items -/
theorem atI_map {α β : Type} {f : α → β} {xs : List α} {i : Int} {z : β} : atI (xs.map f) i = some z ↔ ∃ x, atI xs i = some x ∧ f x = z := by
  unfold atI
  rw [List.length_map]
  cases ixN xs.length i with
  | none => simp
  | some j => simp [List.getElem?_map, Option.map_eq_some_iff]
theorem ats_atI {G : Gv} {H : Hp} {ds : List D} {xs : List V} {d : D} (as : D.Ats G H ds xs) (h : atI ds i = some d) : ∃ v, atI xs i = some v ∧ D.At G H d v := by
  unfold atI at h ⊢
  rw [as.length]
  cases e : ixN ds.length i with
  | none => rw [e] at h; cases h
  | some k =>
    rw [e] at h
    exact as.get (i := k) h
theorem xw_list {a : Addr} {ds : List D} {d : D} (ha : (a, .lst ds) ∈ η) (hi : atI ds i = some d) (h : Q d η) : IxW y (.ref a) (.int i) ρ η Q := fun fp H0 σ H S w Qv o v v' av bv => by
  obtain ⟨_, e1, xs, rfl, as⟩ := S.st.at_ _ _ ha
  obtain ⟨z, ez, az⟩ := ats_atI as hi
  exact wX_of ix_list ⟨a, xs, i, z, at_ref.mp av, at_int.mp bv, SqL.of e1, ez, o _ _ _ _ h S Kp.refl az⟩
theorem xw_tup {ds : List D} {d : D} (hi : atI ds i = some d) (h : Q d η) : IxW y (.tup ds) (.int i) ρ η Q := fun fp H0 σ H S w Qv o v v' av bv => by
  obtain ⟨a, xs, rfl, s, as⟩ := at_tup.mp av
  obtain ⟨z, ez, az⟩ := ats_atI as hi
  exact wX_of ix_tup ⟨a, xs, i, z, rfl, at_int.mp bv, s, ez, o _ _ _ _ h S Kp.refl az⟩
theorem xw_str {x : Str} {c : Nat} (hz : x.length ≤ sizeLine) (hi : atI x.cps.toList i = some c) (h : Q (.str ⟨#[c]⟩) η) : IxW y (.str x) (.int i) ρ η Q := fun fp H0 σ H S w Qv o v v' av bv =>
  wX_of ix_str ⟨x, i, c, at_str.mp av, at_int.mp bv, hz, hi, o _ _ _ _ h S Kp.refl (at_str.mpr rfl)⟩
theorem sw_list {a : Addr} {ds : List D} {d : D} {k : Nat} (ha : (a, .lst ds) ∈ η) (hi : ixN ds.length i = some k) {N : Sto → Prop} (h : N (putM a (.lst (ds.set k d)) η)) : SetW y (.ref a) (.int i) d ρ η N := fun fp H0 σ H S Qv o x x' z ax ai az => by
  obtain ⟨_, e1, xs, rfl, as⟩ := S.st.at_ _ _ ha
  have P := S.put (m' := .lst (ds.set k d)) ha ⟨_, rfl, as.set az⟩
  exact wSet_of set_list ⟨a, xs, i, k, at_ref.mp ax, at_int.mp ai, e1, by rw [as.length]; exact hi, o _ _ h P.1 P.2⟩
end
end Sx

/-! S6: dicts, slices, chains, isinstance, calls of classes and of their methods, operators of one's own. -/
namespace Sx
open PySem PySem.Spec PyProof.Rows L2
open LamX (Tabs TabS)
/-- no exception leaves these callees -/
theorem pas0 {X : Cx} {E : XK} : Passes CX0 X E := fun _ _ _ _ _ _ _ h => h.elim
/-! ### own operators, at the level of readings -/
section
variable {X : Cx} {CX : CXT} {k : Nat} {C g : Addr} {sp : Sp} {E : XK}
def rOwnB (C : Addr) (sp : Sp) (E : XK) : R2 := fun x y H Q => ∃ a dx fs b dy gs, x = .ref a ∧ y = .ref b ∧ H a = some (.ins C dx fs) ∧ H b = some (.ins C dy gs) ∧ sp [x, y] H Q E
theorem inst_here {pins : List (Addr × Obj)} {s : Shared} {σ : L2.St} {H : Hp} {a dx : Addr} {fs : List (Str × V)} (I : Inv X pins σ H s) (e : H a = some (.ins C dx fs)) : ∃ od, PySem.W.InstAt s.heap a (PySem.W.instObj C dx) C (some od) := by
  obtain ⟨mA, J, _⟩ := ins_get I.hok e
  obtain ⟨od, z, _⟩ := J.look
  exact ⟨od, z⟩
theorem op_ownB {op : Operator} (hc : PySem.W.selfFirst X.K C = true) (hs : PySem.W.findIn X.K (.ref C) (PySem.dunder op.info.2) = some (some (.ref g))) (hf : PySem.W.isFn X.K (.ref g) = true) (F : FnR X.prog X.w X.K X.mg X.base CX k g sp) (hr : Room k X.A) (hx : Passes CX X E) :
    OpR X (binaryOp op) (rOwnB C sp E) := by
  intro pins s σ H x y v u Q I rx ry h
  obtain ⟨a, dx, fs, b, dy, gs, rfl, rfl, ha, hb, q⟩ := h
  obtain rfl : v = Value.ref a := rx
  obtain rfl : u = Value.ref b := ry
  obtain ⟨od, J⟩ := inst_here I ha
  obtain ⟨od', J'⟩ := inst_here I hb
  obtain ⟨m, hF⟩ := I.fr
  have run := wpAny_call (run_fnR (us := [.ref a, .ref b]) (vs := [.ref a, .ref b]) F hr hx I (.cons rfl (.cons rfl .nil)) q)
  exact PySem.W.binop_K hF I.ok.mod.kin J J'.type hc hs hf (wpAny_mono run (fun w s' ⟨z', H', I', rz, qz⟩ => SlX.cmpback rz ⟨z', H', I', rz, qz⟩) fun _ _ x => x)
theorem op_ownC {op : CmpOp} (hop : ∀ a b, compareOp op a b = richCompare op a b) (hn : PySem.W.notFirst X.K C (.ref C) = true) (hs : PySem.W.findIn X.K (.ref C) (cmpInfo op).2.1 = some (some (.ref g))) (hf : PySem.W.isFn X.K (.ref g) = true)
    (F : FnR X.prog X.w X.K X.mg X.base CX k g sp) (hr : Room k X.A) (hx : Passes CX X E) : OpR X (compareOp op) (rOwnB C sp E) := by
  intro pins s σ H x y v u Q I rx ry h
  obtain ⟨a, dx, fs, b, dy, gs, rfl, rfl, ha, hb, q⟩ := h
  obtain rfl : v = Value.ref a := rx
  obtain rfl : u = Value.ref b := ry
  obtain ⟨od, J⟩ := inst_here I ha
  obtain ⟨od', J'⟩ := inst_here I hb
  obtain ⟨m, hF⟩ := I.fr
  rw [hop]
  have run := wpAny_call (run_fnR (us := [.ref a, .ref b]) (vs := [.ref a, .ref b]) F hr hx I (.cons rfl (.cons rfl .nil)) q)
  exact PySem.W.cmp_K (op := op) (tb := .ref C) hr.units0 hF I.ok.mod.kin J J'.type hn hs hf (wpAny_mono run (fun w s' ⟨z', H', I', rz, qz⟩ => SlX.cmpback rz ⟨z', H', I', rz, qz⟩) fun _ _ x => x)
/-- x in o, o's class says what that is, by a truth value -/
def rOwnIn (C : Addr) (sp : Sp) (E : XK) : R2 := fun x y H Q => ∃ a dx fs, y = .ref a ∧ H a = some (.ins C dx fs) ∧ sp [y, x] H (fun v H' => ∃ b, v = .bl b ∧ Q (.bl b) H') E
theorem op_ownIn (hs : PySem.W.findIn X.K (.ref C) "__contains__" = some (some (.ref g))) (hf : PySem.W.isFn X.K (.ref g) = true) (F : FnR X.prog X.w X.K X.mg X.base CX k g sp) (hr : Room k X.A) (hx : Passes CX X E) :
    OpR X (compareOp .In) (rOwnIn C sp E) := by
  intro pins s σ H x y v u Q I rx ry h
  obtain ⟨a, dx, fs, rfl, ha, q⟩ := h
  obtain rfl : u = Value.ref a := ry
  obtain ⟨od, J⟩ := inst_here I ha
  obtain ⟨m, hF⟩ := I.fr
  have run := wpAny_call (run_fnR (us := [.ref a, v]) (vs := [.ref a, x]) F hr hx I (.cons rfl (.cons rx .nil)) q)
  refine PySem.W.in_K hF I.ok.mod.kin J hs hf (wpAny_mono run (fun w s' ⟨z', H', I', rz, b, eb, qz⟩ => ?_) fun _ _ x => x)
  subst eb
  obtain rfl : w = Value.bool b := rz
  exact wpAny_truthy_bool ⟨.bl b, H', I', rfl, qz⟩
/-! ### a class by a local name, called -/
def tMakeL (i : Nat) (C : Addr) (sp : Sp) (dvs : List V) (E : XK) (t : TA) : TE := fun σ H Q => σ[i]? = some (some (.ref C)) ∧ tMake C sp dvs E t σ H Q
theorem pe_makeL {i : Nat} {f : Addr} {fd : FuncData} {ps : List Str} {ds : List Value} {dvs : List V} {x : Str} {p pos : Pos} {e : Expr} {es : List Expr} {t : TA} (M : Mk X.K C f) (F : FnOk X.prog X.w X.K X.mg X.base CX k f fd ps sp) (hr : Room (k + 1) X.A)
    (hN : X.N[i]? = some x) (hv : Vis X.env.scope x) (hb : Binds X.K fd ps ds) (hd : Vals dvs ds) (hx : Passes CX X E) (ha : PA X (e :: es) t)
    (hdb : (x == ("__debug__" : Str)) = false := by decide) (hcd : (x == ("__classdict__" : Str)) = false := by decide) (he : starEach (e :: es) X.env = (false, eval e X.env) :: starEach es X.env := by exact star_cons (by rfl))
    (hpl : (backTo pos (starEach es X.env)).any (·.1) = false := by exact star_any (by rfl)) : PE X (.Call (.Name x p) (e :: es) [] pos) (tMakeL i C sp dvs E t) :=
  ⟨fun pins s σ H Q I ⟨hs, ht⟩ => wpAny_Call_Name_kw (thn ((pe_var (pos := p) hN hv hdb hcd).run pins s σ H (fun v H1 => v = .ref C ∧ H1 = H) I ⟨.ref C, hs, rfl, rfl⟩) fun u s1 ⟨v, H1, I1, r1, e1, e2⟩ => by
    subst e1; subst e2
    obtain rfl : u = Value.ref C := r1
    exact PySem.W.callWith_K (h₀ := X.base) I.ok.mod.kin M.kp (thn (ha.run pos pins s1 σ _ _ I1 ht) fun us s2 ⟨vs, H2, I2, r, q⟩ => ⟨I2.kIn, run_make M F hr hb hd hx I2 r q⟩) he hpl)⟩
/-! ### C.m() without arguments -/
theorem pe_cmeth0 {p g : Addr} {mc : Value} {o : Expr} {m : Str} {pos apos : Pos} {ta : TE} {pl : Sem Bool} (he : PE X o ta) (r : ClX.CRead X.K C mc) (c : ClX.CMet X.K C mc m p g) (F : FnR X.prog X.w X.K X.mg X.base CX k g sp) (hr : Room k X.A) (hx : Passes CX X E)
    (ht : eval (.Call (.Attribute o m apos) [] [] pos) X.env = (do
      let ov ← eval o X.env
      standAt apos.atName
      let (f, first) ← holding [ov] (getMethod ov m pl)
      callWith pos f first (backTo pos (starEach [] X.env)) (backToKw pos (keywordEach [] X.env))) := by rfl) :
    PE X (.Call (.Attribute o m apos) [] [] pos) (ClX.tCMeth C sp E ta tNil) := by
  refine ⟨fun pins s σ H Q I h => PySem.W.methodCall_KW (pl := pl) (thn (he.run pins s σ H _ I h) fun u s1 ⟨x, H1, I1, rx, ex, q⟩ => ?_) ht⟩
  subst ex
  obtain rfl : u = Value.ref C := rx
  refine ClX.getmethcm_ok I1 r c fun s2 I2 => ?_
  exact PySem.W.callWith_M0 ⟨ClX.pin_at I2, I2.kIn⟩ c.fi (ClX.run_cm F hr hx I2 .nil q)
/-! ### f(k = v, ..) without places -/
structure wK (X : Cx) (kws : List Keyword)  (σ : L2.St) (H : Hp) (Q : List V → Hp → Prop) : Prop where
  run : ∀ (pos : Pos) pins s, Inv X pins σ H s → wpAny (model X.prog X.w) X.A (evalAll ((backToKw pos (keywordEach kws X.env)).map (·.2))) (AP X pins σ Q) X.xe s
theorem pk_w {kws : List Keyword} : PK X kws (wK X kws) := ⟨fun pos pins s σ H Q I h => h.run pos pins s I⟩
theorem wK_of {kws : List Keyword} {t : TA} {σ : L2.St} {H : Hp} {Q : List V → Hp → Prop} (p : PK X kws t) (h : t σ H Q) : wK X kws σ H Q := .mk fun pos pins s I => p.run pos pins s σ H Q I h
theorem pe_callK0 {f : Addr} {fd : FuncData} {ps ks : List Str} {g : List Value → List Value → List Value} {gV : List V → List V → List V} {x : Str} {p pos : Pos} {kws : List Keyword} {tk : TA} (F : FnOk X.prog X.w X.K X.mg X.base CX k f fd ps sp) (hr : Room k X.A) (hg : Gl X x) (hm : X.mg x = some (.ref f))
    (hk : PySem.W.keepIn X.K (.ref f) = true) (hb : KBinds X.K fd ps ks g gV) (hx : Passes CX X E) (hkw : PK X kws tk) (hall : (backToKw pos (keywordEach kws X.env)).all (·.1.isSome) = true := by rfl) (hks : (backToKw pos (keywordEach kws X.env)).filterMap (·.1) = ks := by rfl)
    (hdb : (x == ("__debug__" : Str)) = false := by decide) (hpl : ((backTo pos (starEach [] X.env)).any (·.1) || (backToKw pos (keywordEach kws X.env)).any (·.1.isNone)) = false := by rfl) :
    PE X (.Call (.Name x p) [] kws pos) (tCallK sp gV E tNil tk) :=
  ⟨fun pins s σ H Q I h => wpAny_Call_Name_kw (ld_glob I hg hm (PySem.W.callWith_KW0 (h₀ := X.base) I.ok.mod.kin hk hall (thn (hkw.run pos pins s σ H _ I h) fun ws s2 ⟨zs, H2, I2, rz, q2⟩ => ⟨I2.kIn, by
    rw [hks]
    exact run_fnk F hr hb hx I2 .nil rz q2⟩) hpl) hdb)⟩
end

/-! ### the rules -/
section
variable {y : Sy} {a b c e o i : Expr} {es : List Expr} {ρ : Rho} {η : Sto} {Q : D → Sto → Prop} {QB : Bool → Sto → Prop} {N : En} {pos p1 p2 : Pos}
/-! chains -/
theorem tv_chain {op op' : CmpOp} (h : EV y a ρ η fun d1 η1 => EV y b ρ η1 fun d2 η2 => OpW y (compareOp op) d1 d2 ρ η2 fun d η3 => ∃ k, d = .bl k ∧ (k = true → EV y c ρ η3 fun d3 η4 => OpW y (compareOp op') d2 d3 ρ η4 fun d η5 => ∃ k, d = .bl k ∧ QB k η5) ∧ (k = false → QB false η3))
    (hm : lastMarks [op, op'] [b, c] = false := by with_unfolding_all rfl) : TV y (.Compare a [op, op'] [b, c] pos) ρ η QB := fun fp H0 σ H S w Qv o =>
  wT_of (pt_chain or_w or_w pe_w pe_w pe_w hm) (h fp H0 σ H S w _ fun d1 η1 x H1 h1 S1 k1 a1 => h1 fp H0 σ H1 S1 w _ fun d2 η2 x2 H2 h2 S2 k2 a2 =>
    h2 fp H0 σ H2 S2 w _ (fun d η3 v H3 q S3 k3 a3 => by
      obtain ⟨k, rfl, q1, q2⟩ := q
      refine ⟨k, at_bl.mp a3, ?_⟩
      cases k with
      | true =>
        refine iteT (q1 rfl fp H0 σ H3 S3 w _ fun d3 η4 x3 H4 h4 S4 k4 a4 => h4 fp H0 σ H4 S4 w _ (fun d η5 v H5 q S5 k5 a5 => ?_) x2 x3 ((a2.kp k3).kp k4) a4)
        obtain ⟨k, rfl, q⟩ := q
        exact ⟨k, at_bl.mp a5, o k η5 H5 q S5 (k1.trans (k2.trans (k3.trans (k4.trans k5))))⟩
      | false => exact iteF ⟨false, rfl, o false η3 H3 (q2 rfl) S3 (k1.trans (k2.trans k3))⟩) x x2 (a1.kp k2) a2)
/-! a built-in's name as a value; isinstance -/
theorem ev_bltn {x : Str} {T : String} (hm : y.X.mg x = none) (hv : bootBuiltins x = some (.type T)) (h : Q (.ty T) η) (hg : Gl y.X x := by rfl) (hn : x ≠ "__name__" := by decide) (hdb : (x == ("__debug__" : Str)) = false := by decide) : EV y (.Name x pos) ρ η Q := fun fp H0 σ H S w Qv o =>
  wE_of (pe_bltn (v := .ty T) hg hm hv rfl hn hdb) (o (.ty T) η _ H h S Kp.refl (at_ty.mpr rfl))
/-- what class a datum's values have -/
structure OfCls (K : PySem.W.Frag) (C : Addr) : Prop where
  cl : Cls K C
  ha : PySem.W.findIn K (.ref C) "__class__" = some (some (.builtin "object.__class__"))
  hn : PySem.W.specialIn K (.builtin "object.__class__") "__get__" = some (some (.builtin "getset_descriptor.__get__"))
  tk : PySem.W.takesIn K (.builtin "object.__class__") = some true
  mo : PySem.W.mroIn K C (.type "object") = some true
inductive TyDt (K : PySem.W.Frag) (η : Sto) : D → Value → Prop
  | non : TyDt K η .non (.type "NoneType")
  | bl (b : Bool) : TyDt K η (.bl b) (.type "bool")
  | int (i : Int) : TyDt K η (.int i) (.type "int")
  | str (x : Str) : TyDt K η (.str x) (.type "str")
  | tup (ds : List D) : TyDt K η (.tup ds) (.type "tuple")
  | lst {a : Addr} {ds : List D} (h : (a, .lst ds) ∈ η) : TyDt K η (.ref a) (.type "list")
  | dic {a : Addr} {ds : List (Key × D)} (h : (a, .dic ds) ∈ η) : TyDt K η (.ref a) (.type "dict")
  | ins {C : Addr} (fs : List (Str × D)) (o : OfCls K C) : TyDt K η (.ins C fs) (.ref C)
  | obj {a C : Addr} {fs : List (Str × D)} (h : (a, .obj C fs) ∈ η) (o : OfCls K C) : TyDt K η (.ref a) (.ref C)
inductive ClD : D → Value → Prop
  | ty (n : String) : ClD (.ty n) (.type n)
  | own (C : Addr) : ClD (.ref C) (.ref C)
theorem TyDt.x {G : Gv} {fp : List Addr} {H0 H : Hp} {σ : L2.St} {d : D} {t : Value} {v : V} (h : TyDt G.K η d t) (S : Sl G fp H0 H σ ρ η) (a : D.At G H d v) : TyX G.K H v t := by
  cases h with
  | non => rw [at_non.mp a]; exact .base .non
  | bl b => rw [at_bl.mp a]; exact .base (.bl b)
  | int b => rw [at_int.mp a]; exact .base (.int b)
  | str b => rw [at_str.mp a]; exact .base (.str b)
  | tup ds =>
    obtain ⟨p, xs, rfl, s, _⟩ := at_tup.mp a
    rcases s with (s | ⟨o, s⟩) | ⟨o, its, n, s1, s2, _⟩
    · exact .base (.tup s)
    · exact .fTuple s
    · exact .kTuple s1 s2
  | lst hm =>
    rw [at_ref.mp a]
    obtain ⟨_, e1, xs, rfl, as⟩ := S.st.at_ _ _ hm
    exact .base (.lst e1)
  | dic hm =>
    rw [at_ref.mp a]
    obtain ⟨_, e1, xs, rfl, as⟩ := S.st.at_ _ _ hm
    exact .base (.dK e1)
  | ins fs o =>
    obtain ⟨p, dx, ws, rfl, e, _, _⟩ := at_ins.mp a
    exact .base (.ins e o.cl o.ha o.hn o.tk o.mo)
  | obj hm o =>
    rw [at_ref.mp a]
    obtain ⟨_, e1, dx, xs, rfl, _, as⟩ := S.st.at_ _ _ hm
    exact .base (.ins e1 o.cl o.ha o.hn o.tk o.mo)
theorem cw_isi {d k : D} {t u : Value} {r : Bool} (h1 : TyDt y.X.K η d t) (h2 : ClD k u) (h3 : PySem.W.kitOne y.X.K t u = some r) (h : Q (.bl r) η) : CallW y (.builtin "isinstance") [d, k] ρ η Q := fun fp H0 σ H S w Qv o vs av => by
  obtain ⟨x, z, rfl, ax, az⟩ := two_of av
  refine wC_of call_isi ⟨x, z, t, u, r, rfl, ?_, h1.x (G := y.G) S ax, h3, o _ η _ H h S Kp.refl (at_bl.mpr rfl)⟩
  cases h2 with
  | ty n => rw [at_ty.mp az]; exact .ty n
  | own C => rw [at_ref.mp az]; exact .own C
/-! dicts -/
def valD (kvs : List (Key × D)) (k : Key) : Option D := (kvs.find? fun kv => decide (kv.1 = k)).map (·.2)
def putD (kvs : List (Key × D)) (k : Key) (d : D) : List (Key × D) := if (kvs.any fun kv => decide (kv.1 = k)) = true then kvs.map (fun kv => if kv.1 = k then (kv.1, d) else kv) else kvs ++ [(k, d)]
inductive KeyD : D → Key → Prop
  | int (i : Int) : KeyD (.int i) (.inl i)
  | str (x : Str) : KeyD (.str x) (.inr x)
theorem KeyD.v {G : Gv} {H : Hp} {d : D} {k : Key} {v : V} (h : KeyD d k) (a : D.At G H d v) : v = kV k := by
  cases h with
  | int i => exact at_int.mp a
  | str x => exact at_str.mp a
theorem aks_val {G : Gv} {H : Hp} {k : Key} {d : D} : ∀ {kvs : List (Key × D)} {ws : List (Key × V)}, D.Aks G H kvs ws → valD kvs k = some d → ∃ v, valV ws k = some v ∧ D.At G H d v
  | [], _, _, h => by simp [valD] at h
  | (k', d') :: kvs, ws, a, h => by
    obtain ⟨x, ys, rfl, a1, a2⟩ := a
    unfold valD at h
    unfold valV
    rw [List.find?_cons] at h ⊢
    by_cases e : k' = k
    · simp only [e, decide_true] at h ⊢
      cases h
      exact ⟨x, rfl, a1⟩
    · simp only [e, decide_false] at h ⊢
      exact aks_val a2 h
theorem aks_any {G : Gv} {H : Hp} {k : Key} : ∀ {kvs : List (Key × D)} {ws : List (Key × V)}, D.Aks G H kvs ws → (ws.any fun kv => decide (kv.1 = k)) = (kvs.any fun kv => decide (kv.1 = k))
  | [], _, a => by rw [show _ = _ from a]; rfl
  | (k', d') :: kvs, ws, a => by
    obtain ⟨x, ys, rfl, a1, a2⟩ := a
    rw [List.any_cons, List.any_cons, aks_any a2]
theorem aks_map {G : Gv} {H : Hp} {k : Key} {d : D} {v : V} (av : D.At G H d v) : ∀ {kvs : List (Key × D)} {ws : List (Key × V)}, D.Aks G H kvs ws → D.Aks G H (kvs.map (fun kv => if kv.1 = k then (kv.1, d) else kv)) (ws.map (fun kv => if kv.1 = k then (kv.1, v) else kv))
  | [], _, a => by rw [show _ = _ from a]; rfl
  | (k', d') :: kvs, ws, a => by
    obtain ⟨x, ys, rfl, a1, a2⟩ := a
    rw [List.map_cons, List.map_cons]
    by_cases e : k' = k
    · rw [if_pos e, if_pos e]
      exact ⟨v, _, rfl, av, aks_map av a2⟩
    · rw [if_neg e, if_neg e]
      exact ⟨x, _, rfl, a1, aks_map av a2⟩
theorem aks_app {G : Gv} {H : Hp} {k : Key} {d : D} {v : V} (av : D.At G H d v) : ∀ {kvs : List (Key × D)} {ws : List (Key × V)}, D.Aks G H kvs ws → D.Aks G H (kvs ++ [(k, d)]) (ws ++ [(k, v)])
  | [], _, a => by rw [show _ = _ from a]; exact ⟨v, [], rfl, av, rfl⟩
  | (k', d') :: kvs, ws, a => by
    obtain ⟨x, ys, rfl, a1, a2⟩ := a
    exact ⟨x, _, rfl, a1, aks_app av a2⟩
theorem aks_put {G : Gv} {H : Hp} {k : Key} {d : D} {v : V} {kvs : List (Key × D)} {ws : List (Key × V)} (a : D.Aks G H kvs ws) (av : D.At G H d v) : D.Aks G H (putD kvs k d) (putK ws k v) := by
  unfold putD putK
  rw [aks_any a]
  split
  · exact aks_map av a
  · exact aks_app av a
theorem aks_len {G : Gv} {H : Hp} : ∀ {kvs : List (Key × D)} {ws : List (Key × V)}, D.Aks G H kvs ws → ws.length = kvs.length
  | [], _, a => by rw [show _ = _ from a]; rfl
  | (k', d') :: kvs, ws, a => by
    obtain ⟨x, ys, rfl, a1, a2⟩ := a
    rw [List.length_cons, List.length_cons, aks_len a2]
theorem ev_dget (hu : y.X.A.units + 1 < cLine) (hs : NoSl b) (h : EV y a ρ η fun d1 η1 => EV y b ρ η1 fun d2 η2 => ∃ p kvs k d, d1 = .ref p ∧ (p, .dic kvs) ∈ η2 ∧ KeyD d2 k ∧ valD kvs k = some d ∧ Q d η2) : EV y (.Subscript a b pos) ρ η Q := fun fp H0 σ H S w Qv o =>
  wE_of (pe_dget hu pe_w pe_w hs) (h fp H0 σ H S w _ fun d1 η1 x H1 h1 S1 k1 a1 => h1 fp H0 σ H1 S1 w _ fun d2 η2 x2 H2 h2 S2 k2 a2 => by
    obtain ⟨p, kvs, k, d, rfl, hm, hk, hv, q⟩ := h2
    obtain ⟨_, e1, ws, rfl, as⟩ := S2.st.at_ _ _ hm
    obtain ⟨v, ev, av⟩ := aks_val as hv
    have g : DGet H2 p x2 (some v) := by
      rw [hk.v a2, ← ev]
      exact DGet.k e1
    exact ⟨p, v, at_ref.mp a1, g, o d η2 v H2 q S2 (k1.trans k2) av⟩)
theorem sv_dput (hu : y.X.A.units + 1 < cLine) (h : EV y e ρ η fun v η1 => EV y o ρ η1 fun d η2 => EV y i ρ η2 fun kd η3 => ∃ p kvs k, d = .ref p ∧ (p, .dic kvs) ∈ η3 ∧ KeyD kd k ∧ kvs.length < sizeLine ∧ N.nx ρ (putM p (.dic (putD kvs k v)) η3))
    (hs : swapsWith e (some (.Subscript o i p1)) pos.line y.X.env = pure false := by rfl) : SV y (.Assign [.Subscript o i p1] e pos) ρ η N := fun fp H0 σ H S w D' ou =>
  wS_of (ps_dput hu pe_w pe_w pe_w hs) (h fp H0 σ H S w _ fun d1 η1 v H1 q1 S1 k1 a1 => q1 fp H0 σ H1 S1 w _ fun d2 η2 x H2 q2 S2 k2 a2 => q2 fp H0 σ H2 S2 w _ fun d3 η3 x' H3 q3 S3 k3 a3 => by
    obtain ⟨p, kvs, k, rfl, hm, hk, hl, q⟩ := q3
    obtain ⟨_, e1, ws, rfl, as⟩ := S3.st.at_ _ _ hm
    have av : D.At y.G H3 d1 v := (a1.kp k2).kp k3
    have P := S3.put (m' := .dic (putD kvs k d1)) hm ⟨_, rfl, aks_put (k := k) as av⟩
    have g : DPut H3 p x' v (upd H3 p (.dK (putK ws k v))) := by
      rw [hk.v a3]
      exact DPut.k e1 (by rw [aks_len as]; exact hl)
    exact ⟨p, _, at_ref.mp a2, g, ou.nx ρ _ σ _ q P.1 (k1.trans (k2.trans (k3.trans P.2)))⟩)
/-! slices of lists of the store -/
def OV (y : Sy) (e : Option Expr) (ρ : Rho) (η : Sto) (Q : Option Int → Sto → Prop) : Prop := match e with
  | none => Q none η
  | some e => EV y e ρ η fun d η1 => ∃ i, d = .int i ∧ Q (some i) η1
def wP (X : Cx) : Option Expr → TO
  | none => tNoPart
  | some e => tPart (wE X e)
theorem po_w {X : Cx} : ∀ {e : Option Expr}, PO X e (wP X e)
  | none => po_none
  | some _ => po_some pe_w
theorem ov_run {lo : Option Expr} {QO : Option Int → Sto → Prop} {fp : List Addr} {H0 H : Hp} {σ : L2.St} (h : OV y lo ρ η QO) (S : Sl y.G fp H0 H σ ρ η) (w : Wk y fp H0) (Qv : Option Int → Hp → Prop) (o : ∀ x η' H', QO x η' → Sl y.G fp H0 H' σ ρ η' → Kp y.G H H' → Qv x H') : wP y.X lo σ H Qv := by
  cases lo with
  | none => exact o none η H h S Kp.refl
  | some e =>
    have h' : EV y e ρ η fun d η1 => ∃ i, d = .int i ∧ QO (some i) η1 := h
    refine h' fp H0 σ H S w _ fun d η1 x H1 q S1 k1 a1 => ?_
    obtain ⟨i, rfl, q⟩ := q
    exact ⟨i, at_int.mp a1, o _ _ _ q S1 k1⟩
def cutD (xs : List D) (lo hi : Option Int) : List D := (xs.drop (HT.sIx xs.length 0 lo)).take (HT.sIx xs.length xs.length hi - HT.sIx xs.length 0 lo)
theorem ev_sliceL {lo hi : Option Expr} (h : EV y e ρ η fun d η1 => OV y lo ρ η1 fun l η2 => OV y hi ρ η2 fun u η3 => ∃ p ds, d = .ref p ∧ (p, .lst ds) ∈ η3 ∧ ∀ q, Q (.ref q) ((q, .lst (cutD ds l u)) :: η3)) : EV y (.Subscript e (.Slice lo hi none p2) pos) ρ η Q := fun fp H0 σ H S w Qv o =>
  wE_of (pe_slice sl_list pe_w po_w po_w) (h fp H0 σ H S w _ fun d η1 x H1 h1 S1 k1 a1 => ov_run h1 S1 w _ fun l η2 H2 h2 S2 k2 => ov_run h2 S2 w _ fun u η3 H3 h3 S3 k3 => by
    obtain ⟨p, ds, rfl, hm, q⟩ := h3
    obtain ⟨_, e1, xs, rfl, as⟩ := S3.st.at_ _ _ hm
    refine ⟨p, xs, at_ref.mp a1, SqL.of e1, fun z nz => o _ _ _ _ (q z) (S3.alloc nz ⟨_, rfl, ?_⟩) (k1.trans (k2.trans (k3.trans (Gr.new nz : Gr y.G H3 _).kp))) (at_ref.mpr rfl)⟩
    unfold cutD cutV
    rw [as.length]
    exact D.Ats.take _ (D.Ats.drop _ as))
/-! calls -/
variable {α : Type} {F : FS α} {k : Nat} {f C g : Addr} {fd : FuncData} {ps ks : List Str} {ds : List Value} {dvs : List V} {dds : List D} {x m : Str}
/-- a def of the module, of those that let no exception out -/
theorem ev_fn (K : FnOk y.X.prog y.X.w y.X.K y.X.mg y.X.base CX0 k f fd ps (spOf y.G F)) (hr : Room k y.X.A) (hm : y.X.mg x = some (.ref f)) (hk : PySem.W.keepIn y.X.K (.ref f) = true) (hb : Binds y.X.K fd ps [])
    (h : AV y (e :: es) ρ η fun vs η1 => ∃ a ηr, AfterCall y F vs ρ η1 Q a ηr) (hg : Gl y.X x := by rfl)
    (hdb : (x == ("__debug__" : Str)) = false := by decide) (he : starEach (e :: es) y.X.env = (false, eval e y.X.env) :: starEach es y.X.env := by exact star_cons (by rfl)) (hpl : (backTo pos (starEach es y.X.env)).any (·.1) = false := by exact star_any (by rfl)) :
    EV y (.Call (.Name x p1) (e :: es) [] pos) ρ η Q :=
  ev_call (dds := []) K hr hm hk hb .nil (fun _ => ats_nil.mpr rfl) (fun _ => pas0) (fun fp H0 σ H S w Qv o => h fp H0 σ H S w Qv fun vs η1 xs H1 q S1 k1 a1 => o vs η1 xs H1 (by
    show ∃ a ηr, AfterCall y F (vs ++ []) ρ η1 Q a ηr
    rw [List.append_nil]
    exact q) S1 k1 a1) hg hdb he hpl
/-- .. with defaults -/
theorem ev_fnD (K : FnOk y.X.prog y.X.w y.X.K y.X.mg y.X.base CX0 k f fd ps (spOf y.G F)) (hr : Room k y.X.A) (hm : y.X.mg x = some (.ref f)) (hk : PySem.W.keepIn y.X.K (.ref f) = true) (hb : Binds y.X.K fd ps ds) (hd : Vals dvs ds) (hda : ∀ H, D.Ats y.G H dds dvs)
    (h : AV y (e :: es) ρ η fun vs η1 => ∃ a ηr, AfterCall y F (vs ++ dds) ρ η1 Q a ηr) (hg : Gl y.X x := by rfl)
    (hdb : (x == ("__debug__" : Str)) = false := by decide) (he : starEach (e :: es) y.X.env = (false, eval e y.X.env) :: starEach es y.X.env := by exact star_cons (by rfl)) (hpl : (backTo pos (starEach es y.X.env)).any (·.1) = false := by exact star_any (by rfl)) :
    EV y (.Call (.Name x p1) (e :: es) [] pos) ρ η Q := ev_call K hr hm hk hb hd hda (fun _ => pas0) h hg hdb he hpl
def KV (y : Sy) (kws : List Keyword) (ρ : Rho) (η : Sto) (Q : List D → Sto → Prop) : Prop :=
  ∀ fp H0 σ H, Sl y.G fp H0 H σ ρ η → Wk y fp H0 → ∀ Qv : List V → Hp → Prop, OutA y fp H0 σ ρ H Q Qv → wK y.X kws σ H Qv
theorem kv_nil {Qa : List D → Sto → Prop} (h : Qa [] η) : KV y [] ρ η Qa := fun fp H0 σ H S w Qv o => wK_of pk_nil (o [] η [] H h S Kp.refl (ats_nil.mpr rfl))
theorem kv_cons {Qa : List D → Sto → Prop} {nm : Option Str} {kws : List Keyword} (h : EV y e ρ η fun d η1 => KV y kws ρ η1 fun ds η2 => Qa (d :: ds) η2) : KV y (⟨nm, e, p1⟩ :: kws) ρ η Qa := fun fp H0 σ H S w Qv o =>
  wK_of (pk_cons pe_w pk_w) (h fp H0 σ H S w _ fun d1 η1 x H1 h1 S1 k1 a1 => h1 fp H0 σ H1 S1 w _ fun ds η2 xs H2 h2 S2 k2 a2 =>
    o (d1 :: ds) η2 (x :: xs) H2 h2 S2 (k1.trans k2) (ats_cons.mpr ⟨x, xs, rfl, a1.kp k2, a2⟩))
/-- f(k = v, ..): the keywords in the parameters' order -/
theorem ev_fnK {kws : List Keyword} (K : FnOk y.X.prog y.X.w y.X.K y.X.mg y.X.base CX0 k f fd ps (spOf y.G F)) (hr : Room k y.X.A) (hm : y.X.mg x = some (.ref f)) (hk : PySem.W.keepIn y.X.K (.ref f) = true) (hb : KBinds y.X.K fd ps ks (fun _ ws => ws) (fun _ zs => zs))
    (h : KV y kws ρ η fun vs η1 => ∃ a ηr, AfterCall y F vs ρ η1 Q a ηr) (hg : Gl y.X x := by rfl) (hall : (backToKw pos (keywordEach kws y.X.env)).all (·.1.isSome) = true := by rfl) (hks : (backToKw pos (keywordEach kws y.X.env)).filterMap (·.1) = ks := by rfl)
    (hdb : (x == ("__debug__" : Str)) = false := by decide) (hpl : ((backTo pos (starEach [] y.X.env)).any (·.1) || (backToKw pos (keywordEach kws y.X.env)).any (·.1.isNone)) = false := by rfl) :
    EV y (.Call (.Name x p1) [] kws pos) ρ η Q := fun fp H0 σ H S w Qv o =>
  wE_of (pe_callK0 (E := fun cls d H => y.W cls d σ H) K hr hg hm hk hb pas0 pk_w hall hks hdb hpl) (h fp H0 σ H S w _ fun vs η1 xs H1 h1 S1 k1 a1 => by
    obtain ⟨a, ηr, c⟩ := h1
    exact c.sp (W := y.W) S1 w a1 (fun d η' v H' q S' k' a' => o d η' v H' q S' (k1.trans k') a') fun _ _ _ z => z)
/-- C.m(..), a classmethod -/
theorem ev_cm {mc : Value} {p : Addr} {pl : Sem Bool} (r : ClX.CRead y.X.K C mc) (c : ClX.CMet y.X.K C mc m p g) (K : FnR y.X.prog y.X.w y.X.K y.X.mg y.X.base CX0 k g (spOf y.G F)) (hr : Room k y.X.A)
    (h : EV y o ρ η fun d η1 => d = .ref C ∧ AV y (e :: es) ρ η1 fun vs η2 => ∃ a ηr, AfterCall y F (.ref C :: vs) ρ η2 Q a ηr)
    (hst : starEach (e :: es) y.X.env = (false, eval e y.X.env) :: starEach es y.X.env := by exact star_cons (by rfl)) (hpl : (backTo pos (starEach es y.X.env)).any (·.1) = false := by exact star_any (by rfl))
    (ht : eval (.Call (.Attribute o m p1) (e :: es) [] pos) y.X.env = (do
      let ov ← eval o y.X.env
      standAt p1.atName
      let (f, first) ← holding [ov] (getMethod ov m pl)
      callWith pos f first (backTo pos (starEach (e :: es) y.X.env)) (backToKw pos (keywordEach [] y.X.env))) := by rfl) : EV y (.Call (.Attribute o m p1) (e :: es) [] pos) ρ η Q := fun fp H0 σ H S w Qv ou =>
  wE_of (ClX.pe_cmeth (E := fun cls d H => y.W cls d σ H) (pl := pl) pe_w r c K hr pas0 pa_w hst hpl ht) (h fp H0 σ H S w _ fun d η1 x H1 h1 S1 k1 a1 => by
    obtain ⟨rfl, h1⟩ := h1
    refine ⟨at_ref.mp a1, h1 fp H0 σ H1 S1 w _ fun vs η2 xs H2 h2 S2 k2 a2 => ?_⟩
    obtain ⟨a, ηr, c⟩ := h2
    exact c.sp (W := y.W) S2 w (ats_cons.mpr ⟨_, _, rfl, at_ref.mpr rfl, a2⟩) (fun d η' v H' q S' k' a' => ou d η' v H' q S' (k1.trans (k2.trans k')) a') fun _ _ _ z => z)
theorem ev_cm0 {mc : Value} {p : Addr} {pl : Sem Bool} (r : ClX.CRead y.X.K C mc) (c : ClX.CMet y.X.K C mc m p g) (K : FnR y.X.prog y.X.w y.X.K y.X.mg y.X.base CX0 k g (spOf y.G F)) (hr : Room k y.X.A)
    (h : EV y o ρ η fun d η1 => d = .ref C ∧ ∃ a ηr, AfterCall y F [.ref C] ρ η1 Q a ηr)
    (ht : eval (.Call (.Attribute o m p1) [] [] pos) y.X.env = (do
      let ov ← eval o y.X.env
      standAt p1.atName
      let (f, first) ← holding [ov] (getMethod ov m pl)
      callWith pos f first (backTo pos (starEach [] y.X.env)) (backToKw pos (keywordEach [] y.X.env))) := by rfl) : EV y (.Call (.Attribute o m p1) [] [] pos) ρ η Q := fun fp H0 σ H S w Qv ou =>
  wE_of (pe_cmeth0 (E := fun cls d H => y.W cls d σ H) (pl := pl) pe_w r c K hr pas0 ht) (h fp H0 σ H S w _ fun d η1 x H1 h1 S1 k1 a1 => by
    obtain ⟨rfl, a, ηr, c⟩ := h1
    exact ⟨at_ref.mp a1, c.sp (W := y.W) S1 w (ats_cons.mpr ⟨_, _, rfl, at_ref.mpr rfl, ats_nil.mpr rfl⟩) (fun d η' v H' q S' k' a' => ou d η' v H' q S' (k1.trans k') a') fun _ _ _ z => z⟩)
/-- operators that a class defines -/
theorem opw_own {fo : Value → Value → Sem Value} {fs gs : List (Str × D)} (p : OpR y.X fo (rOwnB C (spOf y.G F) (fun _ _ _ => False))) (h : ∃ a ηr, AfterCall { y with W := fun _ _ _ _ => False, R := fun _ _ _ _ _ => False } F [.ins C fs, .ins C gs] ρ η Q a ηr) : OpW y fo (.ins C fs) (.ins C gs) ρ η Q := fun fp H0 σ H S w Qv o x x' ax ax' => by
  obtain ⟨a, dx, ws, rfl, ha, _, _⟩ := at_ins.mp ax
  obtain ⟨b, dy, zs, rfl, hb, _, _⟩ := at_ins.mp ax'
  obtain ⟨al, ηr, c⟩ := h
  exact wO_of p ⟨a, dx, ws, b, dy, zs, rfl, rfl, ha, hb, c.sp (y := { y with W := fun _ _ _ _ => False, R := fun _ _ _ _ _ => False }) (W := fun _ _ _ _ => False) S (fun _ _ _ _ _ _ z _ => z) (ats_cons.mpr ⟨_, _, rfl, ax, ats_cons.mpr ⟨_, _, rfl, ax', ats_nil.mpr rfl⟩⟩) o fun _ _ _ z => z⟩
theorem opw_ownIn {d : D} {fs : List (Str × D)} (p : OpR y.X (compareOp .In) (rOwnIn C (spOf y.G F) (fun _ _ _ => False))) (h : ∃ a ηr, AfterCall { y with W := fun _ _ _ _ => False, R := fun _ _ _ _ _ => False } F [.ins C fs, d] ρ η (fun r η' => ∃ b, r = .bl b ∧ Q (.bl b) η') a ηr) : OpW y (compareOp .In) d (.ins C fs) ρ η Q := fun fp H0 σ H S w Qv o x x' ax ax' => by
  obtain ⟨b, dy, zs, rfl, hb, _, _⟩ := at_ins.mp ax'
  obtain ⟨al, ηr, c⟩ := h
  exact wO_of p ⟨b, dy, zs, rfl, hb, c.sp (y := { y with W := fun _ _ _ _ => False, R := fun _ _ _ _ _ => False }) (W := fun _ _ _ _ => False) S (fun _ _ _ _ _ _ z _ => z) (ats_cons.mpr ⟨_, _, rfl, ax', ats_cons.mpr ⟨_, _, rfl, ax, ats_nil.mpr rfl⟩⟩) (fun d η' v H' q S' k' a' => by
    obtain ⟨k, rfl, q⟩ := q
    exact ⟨k, at_bl.mp a', o _ η' _ H' q S' k' (at_bl.mpr rfl)⟩) fun _ _ _ z => z⟩
/-! ### an instance is made: what its __init__ promises -/
structure IS (α : Type) where
  args : α → List D
  st : α → Sto
  fs : α → List (Str × D)
  back : α → Sto := fun _ => []
/-- what an __init__ leaves as it was: all but its own object and the things handed in to it -/
structure FrX (G : Gv) (x : Addr) (fp : List Addr) (H H' : Hp) : Prop where
  keep : ∀ b o, H b = some o → (∀ ps, o ≠ .tbl ps) → b ≠ x → b ∉ fp → H' b = some o
  stay : ∀ b o, H b = some o → (∀ ps, o ≠ .tbl ps) → ∃ o', H' b = some o' ∧ ∀ ps, o' ≠ .tbl ps
  imm : ∀ b o, H b = some o → Imm G o → b ≠ x → H' b = some o
def spInit {α : Type} (G : Gv) (C : Addr) (I : IS α) : Sp := fun vs H Q _ => ∃ (a : α) (x dx : Addr) (ws : List V), vs = .ref x :: ws ∧ H x = some (.ins C dx []) ∧ D.Ats G H (I.args a) ws ∧ Tabs G.T H ∧ (∀ p m, (p, m) ∈ I.st a → Held G H p m) ∧ ((I.st a).map (·.1)).Nodup ∧ x ∉ (I.st a).map (·.1) ∧
  ∀ H' gs dx', H' x = some (.ins C dx' gs) → D.Afs G H' (I.fs a) gs → FrX G x ((I.st a).map (·.1)) H H' → Tabs G.T H' → Ht G ((I.st a).map (·.1)) H H' (I.back a) → x ∉ (I.back a).map (·.1) → Q .non H'
structure AfterMake {α : Type} (y : Sy) (C : Addr) (I : IS α) (ds : List D) (η : Sto) (Q : D → Sto → Prop) (a : α) (ηr : Sto) : Prop where
  args : ds = I.args a
  st : η.Perm (I.st a ++ ηr)
  imm : ¬ y.MC C → Q (.ins C (I.fs a)) (I.back a ++ ηr)
  mu : y.MC C → ∀ x, Q (.ref x) ((x, .obj C (I.fs a)) :: (I.back a ++ ηr))
theorem AfterMake.run {α : Type} {I : IS α} {ds : List D} {a : α} {ηr : Sto} {fp : List Addr} {H0 H : Hp} {σ : L2.St} {vs : List V} {Qv : VK} {E : XK} (c : AfterMake y C I ds η Q a ηr) (S : Sl y.G fp H0 H σ ρ η) (av : D.Ats y.G H ds vs) (o : Out y fp H0 σ ρ H Q Qv) {z dz : Addr} (nz : H z = none) (ndz : H dz = none) (ne : dz ≠ z) :
    spInit y.G C I (.ref z :: vs) (upd (upd H dz (.own z)) z (.ins C dz [])) (fun v H2 => v = .non ∧ Qv (.ref z) H2) E := by
  have g1 : Gr y.G H (upd H dz (.own z)) := Gr.new ndz
  have g2 : Gr y.G (upd H dz (.own z)) (upd (upd H dz (.own z)) z (.ins C dz [])) := Gr.new (by rw [upd_ne (Ne.symm ne)]; exact nz)
  have g := g1.trans g2
  have Sp := S.perm c.st
  have S1 := Sp.gr g
  have nd := Sp.st.nd
  rw [List.map_append, List.nodup_append] at nd
  have nH : ∀ b u, H b = some u → b ≠ z := fun b u eb => ne_of_none eb nz
  have zk : z ∉ (I.st a).map (·.1) := fun q => by
    obtain ⟨⟨b, m⟩, hq, eb⟩ := List.mem_map.mp q
    obtain ⟨u, eu, _⟩ := Sp.st.at_ b m (List.mem_append_left _ hq)
    exact nH b u eu eb
  refine ⟨a, z, dz, vs, rfl, upd_same, by rw [← c.args]; exact av.kp g.kp, S1.tb, fun p m hp => S1.st.at_ p m (List.mem_append_left _ hp), nd.1, zk, fun H' gs dz' e af fx tb hb zb => ⟨rfl, ?_⟩⟩
  have F : Fr y.G ((I.st a).map fun (x : Addr × Mo) => x.1) H H' :=
    ⟨fun b u eb n hb => fx.keep b u (g.keep b u eb n) n (nH b u eb) hb, fun b u eb n => fx.stay b u (g.keep b u eb n) n, fun b u eb i => fx.imm b u (g.kp b u eb i) i (nH b u eb)⟩
  have S3 : Sl y.G fp H0 H' σ ρ (I.back a ++ ηr) := Sl.after (η := I.st a) (ηr := ηr) (η' := I.back a) Sp F tb ⟨hb.at_, fun b m q => (hb.own b m q).imp id fun v => (g.fr (fp := [])).vac v, hb.nd⟩
  by_cases hm : y.MC C
  · refine o (.ref z) _ _ H' (c.mu hm z) ⟨S3.fr, S3.tb, S3.len, S3.sl, ⟨fun b m h => ?_, fun b m h => ?_, ?_⟩⟩ F.imm (at_ref.mpr rfl)
    · rcases List.mem_cons.mp h with e1 | h
      · cases e1
        exact ⟨_, e, dz', gs, rfl, hm, af⟩
      · exact S3.st.at_ b m h
    · rcases List.mem_cons.mp h with e1 | h
      · cases e1
        exact .inr (S.fr.vac (vac_none nz))
      · exact S3.st.own b m h
    · rw [List.map_cons, List.nodup_cons]
      refine ⟨fun q => ?_, S3.st.nd⟩
      rw [List.map_append, List.mem_append] at q
      rcases q with q | q
      · exact zb q
      · obtain ⟨⟨b, m⟩, hq, eb⟩ := List.mem_map.mp q
        obtain ⟨u, eu, _⟩ := Sp.st.at_ b m (List.mem_append_right _ hq)
        exact nH b u eu eb
  · exact o (.ins C (I.fs a)) _ _ H' (c.imm hm) S3 F.imm (at_ins.mpr ⟨z, dz', gs, rfl, e, hm, af⟩)
/-! data without instances is the same whatever classes change -/
mutual
def D.plain : D → Bool
  | .tup ds => D.plains ds
  | .ro ds => D.plains ds
  | .ins _ _ => false
  | _ => true
def D.plains : List D → Bool
  | [] => true
  | d :: ds => D.plain d && D.plains ds
end
mutual
theorem D.At.mc {K : PySem.W.Frag} {M M' : Addr → Prop} {T : List (Addr × Str)} {H : Hp} : ∀ {d : D} {v : V}, d.plain = true → D.At ⟨K, M, T⟩ H d v → D.At ⟨K, M', T⟩ H d v
  | .non, _, _, h => by simpa only [D.At] using h
  | .bl _, _, _, h => by simpa only [D.At] using h
  | .int _, _, _, h => by simpa only [D.At] using h
  | .str _, _, _, h => by simpa only [D.At] using h
  | .ref _, _, _, h => by simpa only [D.At] using h
  | .ty _, _, _, h => by simpa only [D.At] using h
  | .tup ds, v, p, h => by
    simp only [D.At] at h ⊢
    simp only [D.plain] at p
    obtain ⟨a, xs, e, s, r⟩ := h
    exact ⟨a, xs, e, s, D.Ats.mc p r⟩
  | .ro ds, v, p, h => by
    simp only [D.At] at h ⊢
    simp only [D.plain] at p
    obtain ⟨a, xs, e, s, r⟩ := h
    exact ⟨a, xs, e, s, D.Ats.mc p r⟩
  | .ins C fs, v, p, h => by
    simp [D.plain] at p
theorem D.Ats.mc {K : PySem.W.Frag} {M M' : Addr → Prop} {T : List (Addr × Str)} {H : Hp} : ∀ {ds : List D} {xs : List V}, D.plains ds = true → D.Ats ⟨K, M, T⟩ H ds xs → D.Ats ⟨K, M', T⟩ H ds xs
  | [], _, _, h => by simpa only [D.Ats] using h
  | d :: ds, xs, p, h => by
    simp only [D.Ats] at h ⊢
    simp only [D.plains, Bool.and_eq_true] at p
    obtain ⟨x, ys, e, a, r⟩ := h
    exact ⟨x, ys, e, D.At.mc p.1 a, D.Ats.mc p.2 r⟩
end
mutual
theorem D.At.less {K : PySem.W.Frag} {M M' : Addr → Prop} {T : List (Addr × Str)} {H : Hp} (hm : ∀ C, M' C → M C) : ∀ {d : D} {v : V}, D.At ⟨K, M, T⟩ H d v → D.At ⟨K, M', T⟩ H d v
  | .non, _, h => by simpa only [D.At] using h
  | .bl _, _, h => by simpa only [D.At] using h
  | .int _, _, h => by simpa only [D.At] using h
  | .str _, _, h => by simpa only [D.At] using h
  | .ref _, _, h => by simpa only [D.At] using h
  | .ty _, _, h => by simpa only [D.At] using h
  | .tup ds, v, h => by
    simp only [D.At] at h ⊢
    obtain ⟨a, xs, e, s, r⟩ := h
    exact ⟨a, xs, e, s, D.Ats.less hm r⟩
  | .ro ds, v, h => by
    simp only [D.At] at h ⊢
    obtain ⟨a, xs, e, s, r⟩ := h
    exact ⟨a, xs, e, s, D.Ats.less hm r⟩
  | .ins C fs, v, h => by
    simp only [D.At] at h ⊢
    obtain ⟨a, dx, ws, e, s, m, r⟩ := h
    exact ⟨a, dx, ws, e, s, fun z => m (hm C z), D.Afs.less hm r⟩
theorem D.Ats.less {K : PySem.W.Frag} {M M' : Addr → Prop} {T : List (Addr × Str)} {H : Hp} (hm : ∀ C, M' C → M C) : ∀ {ds : List D} {xs : List V}, D.Ats ⟨K, M, T⟩ H ds xs → D.Ats ⟨K, M', T⟩ H ds xs
  | [], _, h => by simpa only [D.Ats] using h
  | d :: ds, xs, h => by
    simp only [D.Ats] at h ⊢
    obtain ⟨x, ys, e, a, r⟩ := h
    exact ⟨x, ys, e, D.At.less hm a, D.Ats.less hm r⟩
theorem D.Afs.less {K : PySem.W.Frag} {M M' : Addr → Prop} {T : List (Addr × Str)} {H : Hp} (hm : ∀ C, M' C → M C) : ∀ {fs : List (Str × D)} {ws : List (Str × V)}, D.Afs ⟨K, M, T⟩ H fs ws → D.Afs ⟨K, M', T⟩ H fs ws
  | [], _, h => by simpa only [D.Afs] using h
  | (f, d) :: fs, xs, h => by
    simp only [D.Afs] at h ⊢
    obtain ⟨x, ys, e, a, r⟩ := h
    exact ⟨x, ys, e, D.At.less hm a, D.Afs.less hm r⟩
end
def Mo.plain : Mo → Bool
  | .lst ds => D.plains ds
  | _ => false
theorem Held.mc {K : PySem.W.Frag} {M M' : Addr → Prop} {T : List (Addr × Str)} {H : Hp} {a : Addr} {m : Mo} (p : m.plain = true) (h : Held ⟨K, M, T⟩ H a m) : Held ⟨K, M', T⟩ H a m := by
  obtain ⟨o, e, r⟩ := h
  cases m with
  | lst ds =>
    obtain ⟨xs, e2, as⟩ := r
    exact ⟨o, e, xs, e2, as.mc p⟩
  | dic _ => cases p
  | obj _ _ => cases p
theorem D.Aks.less {K : PySem.W.Frag} {M M' : Addr → Prop} {T : List (Addr × Str)} {H : Hp} (hm : ∀ C, M' C → M C) : ∀ {fs : List (Key × D)} {ws : List (Key × V)}, D.Aks ⟨K, M, T⟩ H fs ws → D.Aks ⟨K, M', T⟩ H fs ws
  | [], _, h => h
  | (f, d) :: fs, xs, h => by
    obtain ⟨x, ys, e, a, r⟩ := h
    exact ⟨x, ys, e, a.less hm, D.Aks.less hm r⟩
/-- an __init__ by its body: its object is one that changes while it runs -/
theorem ok_init {P : Program} {w : World} {K : PySem.W.Frag} {mg : Str → Option Value} {base : Heap} {MC : Addr → Prop} {T : List (Addr × Str)} {α : Type} {x qual : Str} {st : Stmt} {C f : Addr} {fd : FuncData} {N ps : List Str} {k : Nat} (I : IS α) (F : Fun K x qual st f fd) (sc : FnScope N ps (defScope st)) (hl : ∀ a, (I.args a).length + 1 = ps.length)
    (pa : ∀ a, MC C ∨ (D.plains (I.args a) = true ∧ (∀ p m, (p, m) ∈ I.st a → m.plain = true) ∧ I.back a = []))
    (body : ∀ (a : α) (cdv : Value) (A : Around) (outer : List Env) (s : Shared) (H : Hp) (E : XK) (z : Addr), Room k (A.deeper (envOfC qual (defScope st) s.heap.objs.size f cdv)) →
      SVs (yBody P w K mg base (fun c => c = C ∨ MC c) T N qual (defScope st) f cdv A outer s H E) (defBody st) (rho0 N (.ref z :: I.args a)) ((z, .obj C []) :: I.st a) { nx := fun _ η => Lose (fun η1 => η1 = (z, .obj C (I.fs a)) :: I.back a) η, rt := fun d η => d = .non ∧ Lose (fun η1 => η1 = (z, .obj C (I.fs a)) :: I.back a) η }) :
    FnOk P w K mg base CX0 (k + 1) f fd ps (spInit ⟨K, MC, T⟩ C I) := by
  refine F.ok sc (fun vs H Q E h => ?_) (fun cdv A outer s H vs Q E hr h => ?_)
  · obtain ⟨a, z, dz, ws, rfl, _, at_, _⟩ := h
    rw [List.length_cons, at_.length, hl]
  · obtain ⟨a, z, dz, ws, rfl, hz, at_, tb, h1, h2, hzk, hq⟩ := h
    refine ⟨wSs _ (defBody st), pss_w, ?_⟩
    have sub : ∀ c, MC c → (c = C ∨ MC c) := fun c h => .inr h
    have at2 : D.Ats ⟨K, fun c => c = C ∨ MC c, T⟩ H (I.args a) ws ∧ ∀ p m, (p, m) ∈ I.st a → Held ⟨K, fun c => c = C ∨ MC c, T⟩ H p m := by
      rcases pa a with hm | ⟨q1, q2, _⟩
      · have e : (fun c => c = C ∨ MC c) = MC := by
          funext c
          exact propext ⟨fun q => by
            rcases q with q | q
            · rw [q]; exact hm
            · exact q, fun q => .inr q⟩
        rw [e]
        exact ⟨at_, h1⟩
      · exact ⟨at_.mc q1, fun p m hp => (h1 p m hp).mc (q2 p m hp)⟩
    have held : ∀ p m, (p, m) ∈ (z, Mo.obj C []) :: I.st a → Held ⟨K, fun c => c = C ∨ MC c, T⟩ H p m := fun p m hp => by
      rcases List.mem_cons.mp hp with e | hp
      · cases e
        exact ⟨_, hz, dz, [], rfl, .inl rfl, afs_nil.mpr rfl⟩
      · exact at2.2 p m hp
    have nd : ((((z, Mo.obj C []) :: I.st a : Sto)).map (·.1)).Nodup := by
      rw [List.map_cons, List.nodup_cons]
      exact ⟨hzk, h2⟩
    have fin : ∀ η σ ρ H', Lose (fun η1 => η1 = (z, .obj C (I.fs a)) :: I.back a) η → Sl ⟨K, fun c => c = C ∨ MC c, T⟩ ((((z, Mo.obj C []) :: I.st a : Sto)).map (·.1)) H H' σ ρ η → Q .non H' := fun η σ ρ H' hm S' => by
      obtain ⟨η1, rfl, ht⟩ := S'.st.lose hm
      obtain ⟨o, eo, dx, gs, rfl, _, af⟩ := ht.at_ _ _ List.mem_cons_self
      have htn := ht.nd
      rw [List.map_cons, List.nodup_cons] at htn
      refine hq H' gs dx eo (af.less sub) ⟨fun b o e n hb hk => S'.fr.keep b o e n (by
        rw [List.map_cons, List.mem_cons, not_or]
        exact ⟨hb, hk⟩), S'.fr.stay, fun b o e i hb => ?_⟩ S'.tb ?_ htn.1
      · refine S'.fr.keep b o e (imm_ntbl i) ?_
        rw [List.map_cons, List.mem_cons, not_or]
        refine ⟨hb, fun q => ?_⟩
        obtain ⟨⟨c, m⟩, hq2, ec⟩ := List.mem_map.mp q
        have ec' : c = b := ec
        subst ec'
        obtain ⟨u, eu, r⟩ := h1 c m hq2
        rw [e] at eu
        cases eu
        exact r.nimm i
      · refine ⟨fun b m q => ?_, fun b m q => ?_, htn.2⟩
        · rcases pa a with hm | ⟨_, _, q3⟩
          · have e : (fun c => c = C ∨ MC c) = MC := by
              funext c
              exact propext ⟨fun q => by
                rcases q with q | q
                · rw [q]; exact hm
                · exact q, fun q => .inr q⟩
            have := ht.at_ b m (List.mem_cons_of_mem _ q)
            rw [e] at this
            exact this
          · rw [q3] at q
            exact absurd q List.not_mem_nil
        · rcases ht.own b m (List.mem_cons_of_mem _ q) with z1 | z1
          · rw [List.map_cons, List.mem_cons] at z1
            rcases z1 with z1 | z1
            · exact absurd (List.mem_map.mpr ⟨(b, m), q, z1⟩) htn.1
            · exact .inl z1
          · exact .inr z1
    exact body a cdv A outer s H E z hr ((((z, Mo.obj C []) :: I.st a : Sto)).map fun (x : Addr × Mo) => x.1) H (L2.start N (.ref z :: ws)) H (Sl.start (ats_cons.mpr ⟨_, _, rfl, at_ref.mpr rfl, at2.1⟩) tb held nd) (fun _ _ _ _ _ _ z _ => z.elim) _
      ⟨fun ρ η σ H' n S' k' => fin η σ ρ H' n S', fun d ρ η v σ H' n S' k' a' => by
        obtain ⟨rfl, n⟩ := n
        rw [at_non.mp a']
        exact fin η σ ρ H' n S', fun _ _ _ _ z => z.elim, fun _ _ _ _ z => z.elim⟩
theorem ev_mkL {I : IS α} (j : Nat) (M : Mk y.X.K C f) (K : FnOk y.X.prog y.X.w y.X.K y.X.mg y.X.base CX0 k f fd ps (spInit y.G C I)) (hr : Room (k + 1) y.X.A) (hs : ρ[j]? = some (some (.ref C))) (hb : Binds y.X.K fd ps [])
    (h : AV y (e :: es) ρ η fun vs η1 => ∃ a ηr, AfterMake y C I vs η1 Q a ηr) (hN : y.X.N[j]? = some x := by rfl) (hv : Vis y.X.env.scope x := by first | exact Or.inl rfl | exact Or.inr (Or.inl rfl) | exact Or.inr (Or.inr rfl))
    (hdb : (x == ("__debug__" : Str)) = false := by decide) (hcd : (x == ("__classdict__" : Str)) = false := by decide) (he : starEach (e :: es) y.X.env = (false, eval e y.X.env) :: starEach es y.X.env := by exact star_cons (by rfl))
    (hpl : (backTo pos (starEach es y.X.env)).any (·.1) = false := by exact star_any (by rfl)) : EV y (.Call (.Name x p1) (e :: es) [] pos) ρ η Q := fun fp H0 σ H S w Qv o =>
  wE_of (pe_makeL (E := fun _ _ _ => False) M K hr hN hv hb .nil pas0 pa_w hdb hcd he hpl) (by
    obtain ⟨v, ev, av⟩ := S.sl j _ hs
    rw [at_ref.mp av] at ev
    refine ⟨ev, h fp H0 σ H S w _ fun vs η1 xs H1 h1 S1 k1 a1 => ?_⟩
    obtain ⟨a, ηr, c⟩ := h1
    intro z dz nz ndz ne
    rw [List.append_nil]
    exact c.run S1 a1 (fun d η' v H' q S' k' a' => o d η' v H' q S' (k1.trans k') a') nz ndz ne)
theorem ev_mk {I : IS α} (M : Mk y.X.K C f) (K : FnOk y.X.prog y.X.w y.X.K y.X.mg y.X.base CX0 k f fd ps (spInit y.G C I)) (hr : Room (k + 1) y.X.A) (hm : y.X.mg x = some (.ref C)) (hb : Binds y.X.K fd ps [])
    (h : AV y (e :: es) ρ η fun vs η1 => ∃ a ηr, AfterMake y C I vs η1 Q a ηr) (hg : Gl y.X x := by rfl)
    (hdb : (x == ("__debug__" : Str)) = false := by decide) (he : starEach (e :: es) y.X.env = (false, eval e y.X.env) :: starEach es y.X.env := by exact star_cons (by rfl))
    (hpl : (backTo pos (starEach es y.X.env)).any (·.1) = false := by exact star_any (by rfl)) : EV y (.Call (.Name x p1) (e :: es) [] pos) ρ η Q := fun fp H0 σ H S w Qv o =>
  wE_of (pe_make (E := fun _ _ _ => False) M K hr hg hm hb .nil pas0 pa_w hdb he hpl) (h fp H0 σ H S w _ fun vs η1 xs H1 h1 S1 k1 a1 => by
    obtain ⟨a, ηr, c⟩ := h1
    intro z dz nz ndz ne
    rw [List.append_nil]
    exact c.run S1 a1 (fun d η' v H' q S' k' a' => o d η' v H' q S' (k1.trans k') a') nz ndz ne)
/-! fields of instances that change -/
theorem ev_fldO {fn : Str} (h : EV y e ρ η fun d η1 => ∃ p C fs v, d = .ref p ∧ (p, .obj C fs) ∈ η1 ∧ Cls y.X.K C ∧ NoAttr y.X.K C fn ∧ fs.lookup fn = some v ∧ Q v η1) (hb : attributeBase e fn y.X.env (eval e y.X.env) = eval e y.X.env := by rfl) : EV y (.Attribute e fn pos) ρ η Q :=
  fun fp H0 σ H S w Qv o => wE_of (pe_fld pe_w hb) (h fp H0 σ H S w _ fun d η1 x H1 h1 S1 k1 a1 => by
    obtain ⟨p, C, fs, v, rfl, hm, hc, hn, hl, q⟩ := h1
    obtain ⟨_, e1, dx, ws, rfl, mc, af⟩ := S1.st.at_ _ _ hm
    obtain ⟨z, hz, az⟩ : ∃ z, ws.lookup fn = some z ∧ D.At y.G H1 v z := by
      clear e1 a1 hm
      induction fs generalizing ws with
      | nil => simp at hl
      | cons p fs ih =>
        obtain ⟨g, d⟩ := p
        obtain ⟨x, ys, rfl, a, r⟩ := afs_cons.mp af
        rw [List.lookup_cons] at hl ⊢
        split at hl
        · cases hl
          exact ⟨x, rfl, a⟩
        · exact ih hl ys r
    exact ⟨p, C, dx, ws, z, at_ref.mp a1, e1, hc, hn, hz, o v η1 z H1 q S1 k1 az⟩)
def putFD (f : Str) (d : D) : List (Str × D) → List (Str × D)
  | [] => [(f, d)]
  | (g, e) :: r => if g = f then (g, d) :: r else (g, e) :: putFD f d r
theorem afs_len {G : Gv} {H : Hp} : ∀ {fs : List (Str × D)} {ws : List (Str × V)}, D.Afs G H fs ws → ws.length = fs.length
  | [], _, a => by rw [afs_nil.mp a]; rfl
  | (k', d') :: kvs, ws, a => by
    obtain ⟨x, ys, rfl, a1, a2⟩ := afs_cons.mp a
    rw [List.length_cons, List.length_cons, afs_len a2]
theorem afs_put {G : Gv} {H : Hp} {fn : Str} {d : D} {v : V} (av : D.At G H d v) : ∀ {fs : List (Str × D)} {ws : List (Str × V)}, D.Afs G H fs ws → D.Afs G H (putFD fn d fs) (putF fn v ws)
  | [], _, a => by
    rw [afs_nil.mp a]
    exact afs_cons.mpr ⟨v, [], rfl, av, afs_nil.mpr rfl⟩
  | (k', d') :: kvs, ws, a => by
    obtain ⟨x, ys, rfl, a1, a2⟩ := afs_cons.mp a
    unfold putFD putF
    by_cases e : k' = fn
    · rw [if_pos e, if_pos e]
      first
        | exact afs_cons.mpr ⟨v, _, rfl, av, a2⟩
        | (rw [e]; exact afs_cons.mpr ⟨v, _, rfl, av, a2⟩)
    · rw [if_neg e, if_neg e]
      exact afs_cons.mpr ⟨x, _, rfl, a1, afs_put av a2⟩
theorem sv_fld {fn : Str} (h : EV y e ρ η fun v η1 => EV y o ρ η1 fun d η2 => ∃ p C fs, d = .ref p ∧ (p, .obj C fs) ∈ η2 ∧ Cls y.X.K C ∧ NoAttr y.X.K C fn ∧ fs.length < 1000 ∧ N.nx ρ (putM p (.obj C (putFD fn v fs)) η2))
    (hs : swapsWith e (some (.Attribute o fn p1)) pos.line y.X.env = pure false := by rfl) : SV y (.Assign [.Attribute o fn p1] e pos) ρ η N := fun fp H0 σ H S w D' ou =>
  wS_of (ps_fld pe_w pe_w hs) (h fp H0 σ H S w _ fun d1 η1 v H1 q1 S1 k1 a1 => q1 fp H0 σ H1 S1 w _ fun d2 η2 x H2 q2 S2 k2 a2 => by
    obtain ⟨p, C, fs, rfl, hm, hc, hn, hl, q⟩ := q2
    obtain ⟨_, e1, dx, ws, rfl, mc, af⟩ := S2.st.at_ _ _ hm
    have P := S2.put (m' := .obj C (putFD fn d1 fs)) hm ⟨dx, _, rfl, mc, afs_put (a1.kp k2) af⟩
    exact ⟨p, C, dx, ws, at_ref.mp a2, e1, hc, hn, by rw [afs_len af]; exact hl, ou.nx ρ _ σ _ q P.1 (k1.trans (k2.trans P.2))⟩)
/-- o.m(..) of an instance -/
theorem ev_mt {pl : Sem Bool} (c : Cls y.X.K C) (hm : Meth y.X.K C m f) (K : FnOk y.X.prog y.X.w y.X.K y.X.mg y.X.base CX0 k f fd ps (spOf y.G F)) (hr : Room k y.X.A) (hb : Binds y.X.K fd ps [])
    (h : EV y o ρ η fun d η1 => ((∃ fs, d = .ins C fs ∧ fs.lookup m = none) ∨ ∃ p fs, d = .ref p ∧ (p, .obj C fs) ∈ η1 ∧ fs.lookup m = none) ∧ AV y (e :: es) ρ η1 fun vs η2 => ∃ a ηr, AfterCall y F (d :: vs) ρ η2 Q a ηr)
    (hst : starEach (e :: es) y.X.env = (false, eval e y.X.env) :: starEach es y.X.env := by exact star_cons (by rfl)) (hpl : (backTo pos (starEach es y.X.env)).any (·.1) = false := by exact star_any (by rfl))
    (ht : eval (.Call (.Attribute o m p1) (e :: es) [] pos) y.X.env = (do
      let ov ← eval o y.X.env
      standAt p1.atName
      let (f, first) ← holding [ov] (getMethod ov m pl)
      callWith pos f first (backTo pos (starEach (e :: es) y.X.env)) (backToKw pos (keywordEach [] y.X.env))) := by rfl) : EV y (.Call (.Attribute o m p1) (e :: es) [] pos) ρ η Q := fun fp H0 σ H S w Qv ou =>
  wE_of (pe_meth (E := fun cls d H => y.W cls d σ H) (pl := pl) pe_w c hm K hr hb .nil pas0 pa_w hst hpl ht) (h fp H0 σ H S w _ fun d η1 x H1 h1 S1 k1 a1 => by
    obtain ⟨hd, h1⟩ := h1
    have look : ∀ {fs : List (Str × D)} {ws : List (Str × V)}, D.Afs y.G H1 fs ws → fs.lookup m = none → ws.lookup m = none := by
      intro fs
      induction fs with
      | nil => intro ws a _; rw [afs_nil.mp a]; rfl
      | cons p fs ih =>
        intro ws a l
        obtain ⟨g, d⟩ := p
        obtain ⟨x, ys, rfl, _, r⟩ := afs_cons.mp a
        rw [List.lookup_cons] at l ⊢
        split at l
        · cases l
        · exact ih r l
    have fin : ∀ (q : Addr), x = .ref q → wA y.X (e :: es) σ H1 (fun vs H2 => spOf y.G F (x :: (vs ++ [])) H2 Qv (fun cls d H => y.W cls d σ H)) := fun q _ => h1 fp H0 σ H1 S1 w _ fun vs η2 xs H2 h2 S2 k2 a2 => by
      obtain ⟨a, ηr, c⟩ := h2
      rw [List.append_nil]
      exact c.sp (W := y.W) S2 w (ats_cons.mpr ⟨_, _, rfl, a1.kp k2, a2⟩) (fun d η' v H' q S' k' a' => ou d η' v H' q S' (k1.trans (k2.trans k')) a') fun _ _ _ z => z
    rcases hd with ⟨fs, rfl, l⟩ | ⟨p, fs, rfl, hp, l⟩
    · obtain ⟨p, dx, ws, rfl, ep, _, af⟩ := at_ins.mp a1
      exact ⟨p, dx, ws, rfl, ep, look af l, fin p rfl⟩
    · obtain ⟨_, ep, dx, ws, rfl, _, af⟩ := S1.st.at_ _ _ hp
      exact ⟨p, dx, ws, at_ref.mp a1, ep, look af l, fin p (at_ref.mp a1)⟩)
theorem ev_mt0 {pl : Sem Bool} (c : Cls y.X.K C) (hm : Meth y.X.K C m f) (K : FnOk y.X.prog y.X.w y.X.K y.X.mg y.X.base CX0 k f fd ps (spOf y.G F)) (hr : Room k y.X.A) (hb : Binds y.X.K fd ps [])
    (h : EV y o ρ η fun d η1 => ((∃ fs, d = .ins C fs ∧ fs.lookup m = none) ∨ ∃ p fs, d = .ref p ∧ (p, .obj C fs) ∈ η1 ∧ fs.lookup m = none) ∧ ∃ a ηr, AfterCall y F [d] ρ η1 Q a ηr)
    (ht : eval (.Call (.Attribute o m p1) [] [] pos) y.X.env = (do
      let ov ← eval o y.X.env
      standAt p1.atName
      let (f, first) ← holding [ov] (getMethod ov m pl)
      callWith pos f first (backTo pos (starEach [] y.X.env)) (backToKw pos (keywordEach [] y.X.env))) := by rfl) : EV y (.Call (.Attribute o m p1) [] [] pos) ρ η Q := fun fp H0 σ H S w Qv ou =>
  wE_of (pe_meth0 (E := fun cls d H => y.W cls d σ H) (pl := pl) pe_w c hm K hr hb .nil pas0 ht) (h fp H0 σ H S w _ fun d η1 x H1 h1 S1 k1 a1 => by
    obtain ⟨hd, h1⟩ := h1
    have look : ∀ {fs : List (Str × D)} {ws : List (Str × V)}, D.Afs y.G H1 fs ws → fs.lookup m = none → ws.lookup m = none := by
      intro fs
      induction fs with
      | nil => intro ws a _; rw [afs_nil.mp a]; rfl
      | cons p fs ih =>
        intro ws a l
        obtain ⟨g, d⟩ := p
        obtain ⟨x, ys, rfl, _, r⟩ := afs_cons.mp a
        rw [List.lookup_cons] at l ⊢
        split at l
        · cases l
        · exact ih r l
    have fin : spOf y.G F [x] H1 Qv (fun cls d H => y.W cls d σ H) := by
      obtain ⟨a, ηr, c⟩ := h1
      exact c.sp (W := y.W) S1 w (ats_cons.mpr ⟨_, _, rfl, a1, ats_nil.mpr rfl⟩) (fun d η' v H' q S' k' a' => ou d η' v H' q S' (k1.trans k') a') fun _ _ _ z => z
    rcases hd with ⟨fs, rfl, l⟩ | ⟨p, fs, rfl, hp, l⟩
    · obtain ⟨p, dx, ws, rfl, ep, _, af⟩ := at_ins.mp a1
      exact ⟨p, dx, ws, rfl, ep, look af l, fin⟩
    · obtain ⟨_, ep, dx, ws, rfl, _, af⟩ := S1.st.at_ _ _ hp
      exact ⟨p, dx, ws, at_ref.mp a1, ep, look af l, fin⟩)
end
end Sx

/-! S7: sorted(xs, key=lambda x: (x[0] is not None, x[0] or 0)), xs of pairs of ends. -/
namespace Sx
open PySem PySem.Spec PyProof.Rows L2
open LamX (Tabs TabS TabB ExtN)
/-- an end that may be open -/
def endV : Option Int → Value → Prop
  | none, v => v = .none
  | some n, v => ∃ t, v = .int n t
def keyP (o : Option Int) : PyData := .tuple [.bool o.isSome, .int (o.getD 0)]
section
variable {prog : Program} {w : World} {A : Around} {E : Value → Shared → Prop} {s : Shared} {env : Env} {m : Str → Option Value} {x : Str} {t : Addr} {lo hi : Value} {o : Option Int}
theorem ld_loc {pos : Pos} {v : Value} {Q : Value → Shared → Prop} (hk : env.scope.kind = .function) (hl : env.kindOf x = some .local) (hn : s.heap.Ns env.locals m) (hv : m x = some v) (hd : (x == ("__debug__" : Str)) = false) (h : Q v s) :
    wpAny (model prog w) A (eval (.Name x pos) env) Q E s := wpAny_Name (wpAny_loadName_local hk hl hn hv h) hd
/-- x[0] of a pair -/
theorem pair0 {p1 p2 p3 : Pos} {j : Nat} {Q : Value → Shared → Prop} (hk : env.scope.kind = .function) (hl : env.kindOf x = some .local) (hn : s.heap.Ns env.locals m) (hv : m x = some (.ref t)) (hd : (x == ("__debug__" : Str)) = false) (ht : IsTup s.heap t #[lo, hi])
    (h : ∀ tk, Q lo { s with toks := tk }) : wpAny (model prog w) A (eval (.Subscript (.Name x p1) (.Constant (.int 0) j p2) p3) env) Q E s := by
  refine Subscript_ (ld_loc hk hl hn hv hd (wpAny_Constant_int ?_))
  refine subscriptTail_builtinR (x := lo) ?_ slot_tuple_getitem.lookup (getItem_tuple (j := 0) (Q := fun r s' => r = lo ∧ Q r s') ht (by decide) (by decide) rfl rfl ⟨rfl, h _⟩) rfl
  obtain ⟨ob, e, c, _⟩ := ht
  exact ⟨ob, e, c⟩
theorem lam_body {p1 p2 p3 p4 p5 p6 p7 p8 p9 p10 p11 : Pos} {j1 j2 j3 j4 : Nat} {x1 : Nat} (hk : env.scope.kind = .function) (hl : env.kindOf x = some .local) (hn : s.heap.Ns env.locals m) (hv : m x = some (.ref t)) (hd : (x == ("__debug__" : Str)) = false) (ht : IsTup s.heap t #[lo, hi])
    (ho : endV o lo)
    {a : Expr} (ha : a = .Compare (.Subscript (.Name x p1) (.Constant (.int 0) j1 p2) p3) [.IsNot] [.Constant .none j2 p4] p5)
    {b : Expr} (hb : b = .BoolOp .Or [.Subscript (.Name x p6) (.Constant (.int 0) j3 p7) p8, .Constant (.int 0) j4 p9] p10)
    (hs : starEach [a, b] env = [(false, eval a env), (false, eval b env)]) :
    wpAny (model prog w) A (eval (.Tuple [a, b] x1 p11) env) (fun r s' => ∃ h' tk, s' = { s with heap := h', toks := tk } ∧ (∀ b o, s.heap.get? b = some o → h'.get? b = some o) ∧ Reads h' r (keyP o) []) E s := by
  refine wpAny_Tuple_spliced ?_
  rw [hs]
  show wpAny _ _ (spliced ((false, eval a env) :: backTo p11 [(false, eval b env)])) _ _ s
  have fin : ∀ (h' : Heap) (tk tk' : Nat) (u : Value) (n : Int) (tn : Tok), h' = s.heap → u = .int n tn → n = o.getD 0 →
      [Value.bool o.isSome, u].length ≤ sizeLine ∧ (fun r (s' : Shared) => ∃ h' tk, s' = { s with heap := h', toks := tk } ∧ (∀ b o, s.heap.get? b = some o → h'.get? b = some o) ∧ Reads h' r (keyP o) [])
        (Value.ref s.heap.objs.size) { s with heap := s.heap.push { cls := .type "tuple", data := .seq [Value.bool o.isSome, u].toArray }, toks := tk } := by
    intro h' tk tk' u n tn e1 e2 e3
    subst e1 e2 e3
    refine ⟨by show 2 ≤ sizeLine; rw [sizeLine_eq]; decide, _, _, rfl, fun b ob e => Heap.get?_push_of_some _ e, ?_⟩
    refine .tuple (a := s.heap.objs.size) (as := []) (Heap.get?_push_size _ rfl) rfl rfl ?_
    exact .cons (as := []) (bs := []) (.bool _) (.cons (as := []) (bs := []) (.int _ _) .nil)
  refine Calls.spliced_cons ?_
  rw [ha]
  refine wpAny_Compare1 (pair0 hk hl hn hv hd ht fun tk => Constant_none (isnot_none_gen ?_)) (nobehind _ (by decide) (by decide))
  have e1 : (!(lo == Value.none)) = o.isSome := by
    cases o with
    | none => rw [show lo = Value.none from ho]; rfl
    | some n =>
      obtain ⟨u, rfl⟩ := (show ∃ t, lo = Value.int n t from ho)
      rfl
  rw [e1]
  show wpAny _ _ (spliced ((false, eval b env) :: backTo p11 [])) _ _ _
  refine Calls.spliced_cons ?_
  rw [hb]
  refine BoolOp_or (pair0 hk hl hn hv hd ht fun tk2 => ?_)
  cases o with
  | none =>
    rw [show lo = Value.none from ho]
    refine truthy_none ?_
    rw [if_neg Bool.false_ne_true]
    refine BoolOp_one (wpAny_Constant_int ?_)
    exact Calls.spliced_nil (fin s.heap _ 0 _ 0 _ rfl rfl rfl)
  | some n =>
    obtain ⟨u, rfl⟩ := (show ∃ t, lo = Value.int n t from ho)
    refine PyProof.Rows.truthy_int ?_
    by_cases hz : (n != 0) = true
    · rw [if_pos hz]
      exact Calls.spliced_nil (fin s.heap _ 0 _ n _ rfl rfl rfl)
    · rw [if_neg hz]
      refine BoolOp_one (wpAny_Constant_int ?_)
      have : n = 0 := by simpa using hz
      exact Calls.spliced_nil (fin s.heap _ 0 _ 0 _ rfl rfl (by rw [this]; rfl))
/-- the lambda, called: its key; all that was there stands -/
theorem lam_call {f c' : Addr} {pm ctv : Value} {q : Str} {params : Arguments} {body : Expr} {scope : Scope} {p1 p2 p3 p4 p5 p6 p7 p8 p9 p10 p11 : Pos} {j1 j2 j3 j4 : Nat} {x1 : Nat}
    (hf : s.heap.get? f = some (PySem.W.kla_obj "<lambda>" q params body scope [] pm c' ctv)) (hc : ∃ (oc : Obj) (vs : Array Value) (t : Tok), s.heap.get? c' = some oc ∧ oc.data = .fields vs ∧ vs[1]? = some (.str q t))
    (hroom : A.depth < recursionLimit) (lim : s.heap.NoLimit) (hbind : ∀ v, bindArgs (PySem.W.kla_fn "<lambda>" q params body scope [] pm (.ref c') ctv) ⟨[v], []⟩ = pure [(x, v)])
    (h1 : scope.kind = .function) (h2 : scope.isCoroutine = false) (h3 : scope.isGenerator = false) (h4 : scope.names = [(x, .local)]) (hd : (x == ("__debug__" : Str)) = false)
    {a b : Expr} (hb0 : body = .Tuple [a, b] x1 p11) (ha : a = .Compare (.Subscript (.Name x p1) (.Constant (.int 0) j1 p2) p3) [.IsNot] [.Constant .none j2 p4] p5)
    (hb : b = .BoolOp .Or [.Subscript (.Name x p6) (.Constant (.int 0) j3 p7) p8, .Constant (.int 0) j4 p9] p10)
    (ht : IsTup s.heap t #[lo, hi]) (ho : endV o lo) : wpAny (model prog w) A (call (.ref f) [.ref t]) (PySem.W.KeyPure (keyP o) s) (fun _ _ => False) s := by
  obtain ⟨oc, vs, tt, hoc, hdc, hvc⟩ := hc
  refine wpAny_call ?_
  refine PySem.W.kla_callFunE (args := ⟨[.ref t], []⟩) hroom hf rfl h2 h3 rfl ⟨c', oc, vs, tt, rfl, hoc, hdc, hvc⟩ ?_
  rw [hbind]
  refine wpAny_pure (wpAny_newFunctionEnv (fun y hy => ?_) (fun y hy => ?_) (fun h1' hns hsb => ⟨lim.fresh _ hsb, ?_⟩) h1)
  · have hy' : y ∈ scope.names := hy
    rw [h4, List.mem_singleton] at hy'
    rw [hy']
    exact fun z => nomatch z
  · rw [List.mem_singleton] at hy
    rw [hy]
    show scope.names.lookup x = some .local
    rw [h4, List.lookup_cons, beq_self_eq_true]
  · have kp : ∀ b o, s.heap.get? b = some o → h1'.get? b = some o := fun b o e => hsb.extBut b o (Nat.ne_of_lt (Heap.lt_size e)) (Heap.get?_push_of_some _ e)
    refine PySem.W.kla_codeExpr ?_
    subst hb0
    have ht' : IsTup h1' t #[lo, hi] := by
      obtain ⟨ob, e, z⟩ := ht
      exact ⟨ob, kp _ _ e, z⟩
    refine wpAny_mono (lam_body (m := fun y => [(x, Value.ref t)].reverse.lookup y) (x := x) (t := t) (lo := lo) (hi := hi) (o := o) h1 ?_ hns ?_ hd ht' ho ha hb ?_) (fun r s' hr => ?_) fun _ _ z => z
    · show scope.names.lookup x = some .local
      rw [h4, List.lookup_cons, beq_self_eq_true]
    · show List.lookup x [(x, Value.ref t)] = some (.ref t)
      rw [List.lookup_cons, beq_self_eq_true]
    · rw [ha, hb]
      rfl
    · obtain ⟨h', tk, rfl, k', rd⟩ := hr
      exact ⟨h', tk, rfl, fun b o e => k' b o (kp b o e), rd⟩
end

/-! ### the rule -/
def ltKey (o p : Option Int) : Bool := PySem.W.dataLe false keyP o p
def endU : Option Int → V
  | none => .non
  | some n => .int n
def tSortKey (K : PySem.W.Frag) (T : List (Addr × Str)) (te : TE) : TE := fun σ H Q => te σ H fun x H1 => ∃ (a : Addr) (bs : List (V × Option Int)), x = .ref a ∧ SqL K H1 a (bs.map (·.1)) ∧
  (∀ b ∈ bs, ∃ t hi, b.1 = .ref t ∧ SqT K H1 t [endU b.2, hi]) ∧ Tabs T H1 ∧
  ∀ H2, ExtN H1 H2 → Tabs T H2 → ∀ p, H2 p = none → Q (.ref p) (upd H2 p (.lst ((bs.mergeSort fun u v => ltKey u.2 v.2).map (·.1))))
theorem vals_each {R : Value → V × Option Int → Prop} (hR : ∀ u b, R u b → RelV b.1 u) : ∀ {us : List Value} {bs : List (V × Option Int)}, PySem.W.EachIs R us bs → Vals (bs.map (·.1)) us
  | _, _, .nil => .nil
  | _, _, .cons r t => .cons (hR _ _ r) (vals_each hR t)
theorem each_vals {R : Value → V × Option Int → Prop} : ∀ {us : List Value} {bs : List (V × Option Int)}, Vals (bs.map (·.1)) us → (∀ b ∈ bs, ∀ u, RelV b.1 u → R u b) → PySem.W.EachIs R us bs
  | [], [], _, _ => .nil
  | u :: us, b :: bs, .cons r t, h => .cons (h b List.mem_cons_self u r) (each_vals t fun c hc => h c (List.mem_cons_of_mem _ hc))
theorem pe_sortKey {X : Cx} {T : List (Addr × Str)} {c P : Addr} {e body a b : Expr} {te : TE} {params : Arguments} {scope : Scope} {x : Str} {p pos lpos kpos : Pos} {p1 p2 p3 p4 p5 p6 p7 p8 p9 p10 p11 : Pos} {j1 j2 j3 j4 x1 : Nat} {k : Nat}
    (TB : TabB X.base X.mg c P) (hcode : X.env.code = .ref c) (hm : (P, X.env.qual ++ "<lambda>") ∈ T) (hu : ∀ p ∈ T, p.1 = P → p.2 = X.env.qual ++ "<lambda>") (hr : Room (k + 1) X.A) (hg : Gl X "sorted") (hs : X.mg "sorted" = none) (he : PE X e te)
    (hdef : defaultsOf params X.env = ([], [])) (h1 : scope.kind = .function) (h2 : scope.isCoroutine = false) (h3 : scope.isGenerator = false) (h4 : scope.names = [(x, .local)]) (hd : (x == ("__debug__" : Str)) = false)
    (hb0 : body = .Tuple [a, b] x1 p11) (ha : a = .Compare (.Subscript (.Name x p1) (.Constant (.int 0) j1 p2) p3) [.IsNot] [.Constant .none j2 p4] p5)
    (hb : b = .BoolOp .Or [.Subscript (.Name x p6) (.Constant (.int 0) j3 p7) p8, .Constant (.int 0) j4 p9] p10)
    (hbind : ∀ (q : Str) (pm ctv : Value) (c' : Addr) (v : Value), bindArgs (PySem.W.kla_fn "<lambda>" q params body scope [] pm (.ref c') ctv) ⟨[v], []⟩ = pure [(x, v)])
    (hst : backTo pos (starEach [e] X.env) = [(false, eval e X.env)] := by rfl) : PE X (.Call (.Name "sorted" p) [e] [⟨some "key", .Lambda params body scope lpos, kpos⟩] pos) (tSortKey X.K T te) := by
  refine ⟨fun pins s σ H Q I h => ?_⟩
  refine wpAny_Call_Name_kw (ld_blt I hg hs PyProof.Rows.boot_sorted ?_)
  refine PyProof.Rows.callWith_kw ?_ (by rw [hst]; rfl) (by rw [hst]; rfl) rfl rfl
  rw [hst]
  refine Calls.spliced_cons (thn (he.run pins s σ H _ I h) fun u s1 ⟨z, H1, I1, rx, l, bs, ex, sq, ht, tb, q⟩ => Calls.spliced_nil ?_)
  subst ex
  obtain rfl : u = Value.ref l := rx
  show wpAny _ _ (evalAll ((do let v ← eval (.Lambda params body scope lpos) X.env; standAt pos; pure v) :: [])) _ _ s1
  have hfree : ∀ y ∈ scope.names, y.2 = .free → ∃ c, X.env.cells.lookup y.1 = some c := fun y hy e => by
    rw [h4, List.mem_singleton] at hy
    rw [hy] at e
    cases e
  have hcl : cloFrom X.env.cells scope.names [] = [] := by
    rw [h4]
    rfl
  refine wpAny_evalAll_cons (wpAny_bind (LamX.lam_make2 I1 TB hcode hm hu tb hdef hfree fun f c' pm ctv H2 s2 I2 eN T2 hf hfn hfr hco => wpAny_bind (wpAny_standAt (wpAny_pure (wpAny_evalAll_nil ?_)))))
  rw [hcl] at hf
  have sq2 : SqL X.K H2 l (bs.map (·.1)) := by
    rcases sq with (sq | ⟨o, sq⟩) | sq
    · exact .inl (.inl (eN _ _ sq fun _ z => nomatch z))
    · exact .inl (.inr ⟨o, eN _ _ sq fun _ z => nomatch z⟩)
    · exact .inr sq
  have st2 : ∀ {t : Addr} {xs : List V}, SqT X.K H1 t xs → SqT X.K H2 t xs := fun {t xs} z => by
    rcases z with (z | ⟨o, z⟩) | z
    · exact .inl (.inl (eN _ _ z fun _ y => nomatch y))
    · exact .inl (.inr ⟨o, eN _ _ z fun _ y => nomatch y⟩)
    · exact .inr z
  obtain ⟨its, rv, pl, hz⟩ := I2.list sq2
  have hz' : bs.length ≤ sizeLine := by
    rw [List.length_map] at hz
    exact hz
  obtain ⟨⟨oc, cs, ct, hoc, hdc, hvc⟩, _⟩ := (show (∃ (oc : Obj) (vs : Array Value) (t : Tok), s2.heap.get? c' = some oc ∧ oc.data = .fields vs ∧ vs[1]? = some (.str (X.env.qual ++ "<lambda>") t)) ∧ _ from I2.hok c' _ hco)
  show wpAny _ _ (call (.builtin "sorted") [.ref l] [(Str.ofString "key", .ref f)]) _ _ s2
  have each : PySem.W.EachIs (fun v b => RelV b.1 v ∧ ∃ t lo hi, v = .ref t ∧ IsTup s2.heap t #[lo, hi] ∧ endV b.2 lo) its bs := each_vals rv fun b hb u ru => by
    obtain ⟨t, hi, e1, e2⟩ := ht b hb
    refine ⟨ru, ?_⟩
    rw [e1] at ru
    obtain ⟨ts, rt, tt, _⟩ := I2.tuple (st2 e2)
    cases rt with
    | cons ra rt =>
      cases rt with
      | cons rb rt =>
        cases rt
        refine ⟨t, _, _, ru, tt, ?_⟩
        cases hb2 : b.2 with
        | none => rw [hb2] at ra; exact ra
        | some n => rw [hb2] at ra; exact ra
  have hdep := hr.dp
  have hun := hr.un
  refine PySem.W.sorted_key_data (b := false) (fun b : V × Option Int => keyP b.2) ?hl each (PySem.W.AllAlike.of fun _ _ => by simp [keyP, PySem.W.alike, PySem.W.alikeAll]) (PySem.W.Sortable.tuples fun _ => ⟨_, _, rfl⟩) hz' (fun b _ => ?hu) (PyProof.Rows.ksk_s1 _ _) (fun _ => PyProof.Rows.ksk_l1 _ _) (fun _ => PyProof.Rows.ksk_t1 _ _)
    (fun v b hv _ h tk kp => ?turn) fun out cc h' tk kp fr hD hlen eo => ?fin
  case hl => exact pl.isList
  case hu =>
    have hd : (keyP b.2).depth = 1 := by simp [keyP, PyData.depth, PyData.depthAll]
    rw [hd]
    omega
  case turn =>
    obtain ⟨_, t, lo, hi, rfl, tt, he⟩ := hv
    refine lam_call (hi := hi) (s := { s2 with heap := h, toks := tk }) (kp _ _ hf) ⟨oc, cs, ct, kp _ _ hoc, hdc, hvc⟩ ?_ (I2.nolimit.keeps kp) (fun v => hbind _ _ _ _ v) h1 h2 h3 h4 hd hb0 ha hb ?_ he
    · show X.A.depth < recursionLimit
      omega
    · obtain ⟨ob, e, z⟩ := tt
      exact ⟨ob, kp _ _ e, z⟩
  case fin =>
    have hn : H2 (s2.heap.objs.size + 1) = none := I2.hok.fresh (Nat.le_succ _)
    have eo' : PySem.W.EachIs (fun v b => RelV b.1 v ∧ ∃ t lo hi, v = .ref t ∧ IsTup s2.heap t #[lo, hi] ∧ endV b.2 lo) out (bs.mergeSort fun u v => ltKey u.2 v.2) := eo
    have ok : ObjOk X.prog X.w (upd H2 (s2.heap.objs.size + 1) (.lst ((bs.mergeSort fun u v => ltKey u.2 v.2).map (·.1)))) h' (s2.heap.objs.size + 1) (.lst ((bs.mergeSort fun u v => ltKey u.2 v.2).map (·.1))) :=
      ⟨by rw [List.length_map, List.length_mergeSort]; exact hz', out, cc, vals_each (fun _ _ z => z.1) eo', hD⟩
    exact ⟨.ref (s2.heap.objs.size + 1), _, I2.laid kp (Nat.le_succ _) ok, rfl, q H2 eN T2 _ hn⟩
end Sx

/-! S8: the sort as a rule over the store; repr where nothing is being shown; defs that lean on that. -/
namespace Sx
open PySem PySem.Spec PyProof.Rows L2
open LamX (Tabs TabS TabB ExtN)
def endD : Option Int → D
  | none => .non
  | some n => .int n
theorem at_end {G : Gv} {H : Hp} {o : Option Int} {v : V} (h : D.At G H (endD o) v) : v = endU o := by
  cases o with
  | none => exact at_non.mp h
  | some n => exact at_int.mp h
def stD (s : Option Int × D) : D := .tup [endD s.1, s.2]
def sortK (os : List (Option Int × D)) : List (Option Int × D) := os.mergeSort fun u v => ltKey u.1 v.1
theorem ats_pairs {G : Gv} {H : Hp} : ∀ {os : List (Option Int × D)} {xs : List V}, D.Ats G H (os.map stD) xs → ∃ cs : List (V × (Option Int × D)), cs.map (·.1) = xs ∧ cs.map (·.2) = os ∧ ∀ c ∈ cs, D.At G H (stD c.2) c.1
  | [], xs, h => ⟨[], (ats_nil.mp h).symm, rfl, fun _ z => nomatch z⟩
  | o :: os, xs, h => by
    obtain ⟨x, ys, rfl, a, r⟩ := ats_cons.mp h
    obtain ⟨cs, e1, e2, e3⟩ := ats_pairs r
    refine ⟨(x, o) :: cs, by rw [List.map_cons, e1], by rw [List.map_cons, e2], fun c hc => ?_⟩
    rcases List.mem_cons.mp hc with rfl | hc
    · exact a
    · exact e3 c hc
theorem pairs_ats {G : Gv} {H : Hp} : ∀ {cs : List (V × (Option Int × D))}, (∀ c ∈ cs, D.At G H (stD c.2) c.1) → D.Ats G H ((cs.map (·.2)).map stD) (cs.map (·.1))
  | [], _ => ats_nil.mpr rfl
  | c :: cs, h => ats_cons.mpr ⟨c.1, _, rfl, h c List.mem_cons_self, pairs_ats fun d hd => h d (List.mem_cons_of_mem _ hd)⟩
section
variable {y : Sy} {e body a b : Expr} {ρ : Rho} {η : Sto} {Q : D → Sto → Prop}
theorem ev_sortKey {c P : Addr} {params : Arguments} {scope : Scope} {x : Str} {p pos lpos kpos : Pos} {p1 p2 p3 p4 p5 p6 p7 p8 p9 p10 p11 : Pos} {j1 j2 j3 j4 x1 : Nat} {k : Nat}
    (TB : TabB y.X.base y.X.mg c P) (hcode : y.X.env.code = .ref c) (hm : (P, y.X.env.qual ++ "<lambda>") ∈ y.T) (hu : ∀ p ∈ y.T, p.1 = P → p.2 = y.X.env.qual ++ "<lambda>") (hr : Room (k + 1) y.X.A) (hs : y.X.mg "sorted" = none)
    (h : EV y e ρ η fun d η1 => ∃ (l : Addr) (os : List (Option Int × D)), d = .ref l ∧ (l, .lst (os.map stD)) ∈ η1 ∧ ∀ q, Q (.ref q) ((q, .lst ((sortK os).map stD)) :: η1))
    (hdef : defaultsOf params y.X.env = ([], []) := by rfl) (h1 : scope.kind = .function := by rfl) (h2 : scope.isCoroutine = false := by rfl) (h3 : scope.isGenerator = false := by rfl) (h4 : scope.names = [(x, .local)] := by rfl) (hd : (x == ("__debug__" : Str)) = false := by decide)
    (hb0 : body = .Tuple [a, b] x1 p11 := by rfl) (ha : a = .Compare (.Subscript (.Name x p1) (.Constant (.int 0) j1 p2) p3) [.IsNot] [.Constant .none j2 p4] p5 := by rfl)
    (hb : b = .BoolOp .Or [.Subscript (.Name x p6) (.Constant (.int 0) j3 p7) p8, .Constant (.int 0) j4 p9] p10 := by rfl)
    (hbind : ∀ (q : Str) (pm ctv : Value) (c' : Addr) (v : Value), bindArgs (PySem.W.kla_fn "<lambda>" q params body scope [] pm (.ref c') ctv) ⟨[v], []⟩ = pure [(x, v)] := by intros; rfl)
    (hg : Gl y.X "sorted" := by rfl) (hst : backTo pos (starEach [e] y.X.env) = [(false, eval e y.X.env)] := by rfl) : EV y (.Call (.Name "sorted" p) [e] [⟨some "key", .Lambda params body scope lpos, kpos⟩] pos) ρ η Q := fun fp H0 σ H S w Qv o =>
  wE_of (pe_sortKey TB hcode hm hu hr hg hs pe_w hdef h1 h2 h3 h4 hd hb0 ha hb hbind hst) (h fp H0 σ H S w _ fun d η1 z H1 hq S1 k1 a1 => by
    obtain ⟨l, os, rfl, hmem, q⟩ := hq
    obtain ⟨_, e1, xs, rfl, as⟩ := S1.st.at_ _ _ hmem
    obtain ⟨cs, c1, c2, c3⟩ := ats_pairs as
    have eb : (cs.map fun c => (c.1, c.2.1)).map (·.1) = xs := by rw [List.map_map, ← c1]; rfl
    refine ⟨l, cs.map fun c => (c.1, c.2.1), at_ref.mp a1, by rw [eb]; exact SqL.of e1, fun u hu => ?_, S1.tb, fun H2 eN T2 r nr => ?_⟩
    · obtain ⟨c, hc, rfl⟩ := List.mem_map.mp hu
      obtain ⟨t, ys, et, sq, at2⟩ := at_tup.mp (c3 c hc)
      obtain ⟨v1, v2, rfl, z1, z2⟩ := two_of at2
      exact ⟨t, v2, et, by rw [← at_end z1]; exact sq⟩
    · have g : Gr y.G H1 H2 := ⟨fun b ob e n => eN b ob e n, fun _ => T2⟩
      have srt : ((cs.map fun c => (c.1, c.2.1)).mergeSort fun u v => ltKey u.2 v.2).map (·.1) = (cs.mergeSort fun u v => ltKey u.2.1 v.2.1).map (·.1) := by
        rw [← List.map_mergeSort (r := fun u v => ltKey u.2.1 v.2.1) (f := fun c : V × (Option Int × D) => (c.1, c.2.1)) (fun _ _ _ _ => rfl), List.map_map]
        rfl
      have srt2 : sortK os = (cs.mergeSort fun u v => ltKey u.2.1 v.2.1).map (·.2) := by
        unfold sortK
        rw [← c2]
        exact (List.map_mergeSort (r := fun u v => ltKey u.2.1 v.2.1) (s := fun u v => ltKey u.1 v.1) (f := fun c : V × (Option Int × D) => c.2) (fun _ _ _ _ => rfl)).symm
      rw [srt]
      have as2 : D.Ats y.G H2 ((sortK os).map stD) ((cs.mergeSort fun u v => ltKey u.2.1 v.2.1).map (·.1)) := by
        rw [srt2]
        exact pairs_ats fun c hc => (c3 c ((List.mergeSort_perm cs _).mem_iff.mp hc)).kp g.kp
      exact o (.ref r) _ _ _ (q r) ((S1.gr g).alloc nr ⟨_, rfl, as2⟩) (k1.trans (g.kp.trans (Gr.new nr : Gr y.G H2 _).kp)) (at_ref.mpr rfl))
end
/-! ### repr -/
section
variable {X : Cx}
def rRepr (K : PySem.W.Frag) : List V → Hp → VK → Prop := fun xs H Q => ∃ v d, xs = [v] ∧ Dp K H v d ∧ d.showable = true ∧ d.hasDict = false ∧ d.depth ≤ 50 ∧ (∃ a, v = .ref a) ∧ d.shown.length ≤ sizeLine ∧ Q (.str d.shown) H
theorem cr_repr {k : Nat} (hg : X.A.guards = some []) (hr : Room k X.A) : CallR X (.builtin "repr") (rRepr X.K) := by
  intro pins s σ H xs us Q I r h
  obtain ⟨v, d, rfl, dp, h1, h2, h3, ⟨a, rfl⟩, h4, q⟩ := h
  have hu := hr.un
  cases r with
  | cons ru rn =>
    cases rn
    rename_i u
    obtain ⟨as, rd⟩ := Dp.reads I d _ u dp ru
    obtain rfl : u = Value.ref a := ru
    refine repr_of_reads' rd h1 (fun z => by rw [h2] at z; cases z) hg (by omega) (fun _ _ e => e) (fun h' t tk kp => ?_) h4
    exact ⟨.str d.shown, H, I.kept kp, ⟨_, rfl⟩, q⟩
theorem cr_reprB (hg : True) : CallR X (.builtin "repr") (fun xs H Q => ∃ b : Bool, xs = [.bl b] ∧ Q (.str (if b then "True" else "False")) H) := by
  intro pins s σ H xs us Q I r h
  obtain ⟨b, rfl, q⟩ := h
  cases r with
  | cons ru rn =>
    cases rn
    rename_i u
    obtain rfl : u = Value.bool b := ru
    refine PySem.P.repr_of_bool ?_
    exact ⟨.str _, H, I.tok _, ⟨_, rfl⟩, q⟩
end
section
variable {y : Sy} {ρ : Rho} {η : Sto} {Q : D → Sto → Prop}
theorem cw_repr {k : Nat} {a : Addr} {d : PyData} (hg : y.X.A.guards = some []) (hr : Room k y.X.A) (hp : PdAt η (.ref a) d) (h1 : d.showable = true) (h2 : d.hasDict = false) (h3 : d.depth ≤ 50) (h4 : d.shown.length ≤ sizeLine) (h : Q (.str d.shown) η) :
    CallW y (.builtin "repr") [.ref a] ρ η Q := fun fp H0 σ H S w Qv o vs av => by
  obtain ⟨x, rfl, ax⟩ := one_of av
  refine wC_of (cr_repr hg hr) ⟨x, d, rfl, hp.dp S ax, h1, h2, h3, ⟨a, at_ref.mp ax⟩, h4, o _ η _ H h S Kp.refl (at_str.mpr rfl)⟩
theorem cw_reprB {b : Bool} (h : Q (.str (if b then "True" else "False")) η) : CallW y (.builtin "repr") [.bl b] ρ η Q := fun fp H0 σ H S w Qv o vs av => by
  obtain ⟨x, rfl, ax⟩ := one_of av
  exact wC_of (cr_reprB trivial) ⟨b, by rw [at_bl.mp ax], o _ η _ H h S Kp.refl (at_str.mpr rfl)⟩
end
end Sx

/-! S9: defs that ask that nothing is being shown around them; the law's end with such a promise. -/
namespace Sx
open PySem PySem.Spec PyProof.Rows L2
open LamX (Tabs TabS TabB ExtN)
/-- a def's promise where nothing is being shown around -/
def OkG (P : Program) (w : World) (K : PySem.W.Frag) (mg : Str → Option Value) (base : Heap) (k : Nat) (f : Addr) (sp : Sp) : Prop :=
  ∀ (A : Around) (outer : List Env) (s : Shared) (H : Hp) (us : List Value) (vs : List V) (Q : VK) (E : XK), Room k A → A.guards = some [] → Env0 P w K mg base A outer s H → Vals vs us → sp vs H Q E →
    codeAny (model P w) A (.call (.ref f) ⟨us, []⟩) (CR CX0 outer P w H s Q E) s
section
variable {P : Program} {w : World} {K : PySem.W.Frag} {mg : Str → Option Value} {base : Heap} {MC : Addr → Prop} {T : List (Addr × Str)}
theorem OkG.mono {j k : Nat} {f : Addr} {sp : Sp} (h : OkG P w K mg base j f sp) (l : j ≤ k) : OkG P w K mg base k f sp := fun A outer s H us vs Q E hr => h A outer s H us vs Q E (hr.mono l)
theorem okG_of {α : Type} {x qual : Str} {st : Stmt} {f : Addr} {fd : FuncData} {N ps : List Str} {k : Nat} (S : FS α) (F : Fun K x qual st f fd) (sc : FnScope N ps (defScope st)) (hl : ∀ a, (S.args a).length = ps.length) (bd : Binds K fd ps [])
    (body : ∀ (a : α) (cdv : Value) (A : Around) (outer : List Env) (s : Shared) (H : Hp) (E : XK), A.guards = some [] → Room k (A.deeper (envOfC qual (defScope st) s.heap.objs.size f cdv)) →
      SVs (yBody P w K mg base MC T N qual (defScope st) f cdv A outer s H E) (defBody st) (rho0 N (S.args a)) (S.st a) { nx := fun _ η => Lose (S.ret a .non) η, rt := fun d η => Lose (S.ret a d) η }) :
    OkG P w K mg base (k + 1) f (spOf ⟨K, MC, T⟩ S) := by
  intro A outer s H us vs Q E hr hg e0 rv hsp
  obtain ⟨oc, od, kV, doc, pm, an, cdv, ct, osl, rfl, lk, hcd⟩ := F.ex
  obtain ⟨a, at_, tb, h1, h2, hq, _⟩ := hsp
  have len : vs.length = ps.length := at_.length.trans (hl a)
  have kin : K.In s.heap := e0.mod.kin.keeps fun b o e => (e0.bs b o e).1
  have bnd := bd s us kin (by rw [List.append_nil, ← rv.length]; exact len)
  rw [List.append_nil] at bnd
  have kinds : ∀ y ∈ ps.zip us, (defScope st).names.lookup y.1 = some .local ∨ ((defScope st).names.lookup y.1 = some .cell ∧ ((cellsFrom (s.heap.objs.size + 1) (defScope st).names []).lookup y.1).isSome = true) := by
    rintro ⟨n, v⟩ hy
    exact (sc.par n (List.of_mem_zip hy).1).imp id fun q => ⟨q, PySem.W.cellsFrom_some _ _ _ (.inl q)⟩
  refine codeAny_call_function hr.depth (kin _ _ lk) rfl sc.co sc.gen rfl (PySem.W.codeRec_of kin hcd) (bnd _ _ _ _ (wpAny_newFunctionEnv_cells sc.kind kinds fun env he s1 x => ?_))
  subst he
  refine ⟨(e0.mod.nolimit.keeps fun b o e => (e0.bs b o e).1).keeps x.toInCall.keep, codeAny_func ?_⟩
  have I0 : Inv (cxOf CX0 P w K mg base N qual (defScope st) f cdv A outer s H E) [] (L2.start N vs) H s1 := inv_start sc hr.hd e0 len rv x
  have run := (pss_w (X := (cxOf CX0 P w K mg base N qual (defScope st) f cdv A outer s H E).nox) (sts := defBody st)).nox.run [] s1 (L2.start N vs) H { nx := fun _ H' => Q .non H', rt := Q } I0
    (body a cdv A outer s H E hg (hr.deeper _) ((S.st a).map fun (x : Addr × Mo) => x.1) H (L2.start N vs) H (Sl.start at_ tb h1 h2) (fun _ _ _ _ _ _ z _ => z.elim) _
      ⟨fun ρ η σ H' n S' k' => let ⟨η1, n1, n2⟩ := S'.st.lose n; hq .non η1 .non H' n1 S'.fr S'.tb n2 (at_non.mpr rfl), fun d ρ η v σ H' n S' k' a' => let ⟨η1, n1, n2⟩ := S'.st.lose n; hq d η1 v H' n1 S'.fr S'.tb n2 a', fun _ _ _ _ z => z.elim, fun _ _ _ _ z => z.elim⟩)
  refine wpAny_mono run (fun fl s' hs => ?_) fun e s' hs => hs
  cases fl with
  | ret u =>
    obtain ⟨v, σ', H', J, ru, q⟩ := hs
    exact ⟨v, H', J.os, J.bare, J.base, J.hok, ru, q⟩
  | next =>
    obtain ⟨σ', H', J, q⟩ := hs
    exact ⟨.non, H', J.os, J.bare, J.base, J.hok, rfl, q⟩
  | brk => obtain ⟨_, _, _, q⟩ := hs; exact q.elim
  | cont => obtain ⟨_, _, _, q⟩ := hs; exact q.elim
end
/-- such a def is called -/
theorem pe_callG {X : Cx} {k : Nat} {f : Addr} {sp : Sp} {E : XK} {x : Str} {p pos : Pos} {e : Expr} {es : List Expr} {t : TA} (F : OkG X.prog X.w X.K X.mg X.base k f sp) (hr : Room k X.A) (hgu : X.A.guards = some []) (hg : Gl X x) (hm : X.mg x = some (.ref f)) (hk : PySem.W.keepIn X.K (.ref f) = true)
    (ha : PA X (e :: es) t) (hdb : (x == ("__debug__" : Str)) = false := by decide) (he : starEach (e :: es) X.env = (false, eval e X.env) :: starEach es X.env := by exact star_cons (by rfl)) (hpl : (backTo pos (starEach es X.env)).any (·.1) = false := by exact star_any (by rfl)) :
    PE X (.Call (.Name x p) (e :: es) [] pos) (tCall sp [] E t) :=
  ⟨fun pins s σ H Q I h => wpAny_Call_Name_kw (ld_glob I hg hm (PySem.W.callWith_K (h₀ := X.base) I.ok.mod.kin hk (thn (ha.run pos pins s σ H _ I h) fun us s1 ⟨vs, H1, I1, r, q⟩ => ⟨I1.kIn, by
    have q2 : sp (vs ++ []) H1 Q E := q
    rw [List.append_nil] at q2
    refine wpAny_call (codeAny_mono (F X.A X.stack s1 H1 us vs Q E hr hgu I1.env0 r q2) fun rs s' hq => ?_)
    cases rs with
    | error e => exact hq.elim
    | ok fl =>
      cases fl with
      | ret u => exact I1.after hq
      | next => exact False.elim hq
      | brk => exact False.elim hq
      | cont => exact False.elim hq⟩) he hpl) hdb)⟩
section
variable {y : Sy} {e : Expr} {es : List Expr} {ρ : Rho} {η : Sto} {Q : D → Sto → Prop} {pos p1 : Pos} {α : Type} {F : FS α} {k : Nat} {f : Addr} {x : Str}
theorem ev_fnG (K : OkG y.X.prog y.X.w y.X.K y.X.mg y.X.base k f (spOf y.G F)) (hr : Room k y.X.A) (hgu : y.X.A.guards = some []) (hm : y.X.mg x = some (.ref f)) (hk : PySem.W.keepIn y.X.K (.ref f) = true)
    (h : AV y (e :: es) ρ η fun vs η1 => ∃ a ηr, AfterCall y F vs ρ η1 Q a ηr) (hg : Gl y.X x := by rfl)
    (hdb : (x == ("__debug__" : Str)) = false := by decide) (he : starEach (e :: es) y.X.env = (false, eval e y.X.env) :: starEach es y.X.env := by exact star_cons (by rfl)) (hpl : (backTo pos (starEach es y.X.env)).any (·.1) = false := by exact star_any (by rfl)) :
    EV y (.Call (.Name x p1) (e :: es) [] pos) ρ η Q := fun fp H0 σ H S w Qv o =>
  wE_of (pe_callG (E := fun cls d H => y.W cls d σ H) K hr hgu hg hm hk pa_w hdb he hpl) (h fp H0 σ H S w _ fun vs η1 xs H1 h1 S1 k1 a1 => by
    obtain ⟨a, ηr, c⟩ := h1
    rw [List.append_nil]
    exact c.sp (W := y.W) S1 w a1 (fun d η' v H' q S' k' a' => o d η' v H' q S' (k1.trans k') a') fun _ _ _ z => z)
end
/-! ### the law's end -/
section
variable {P : Program} {w : World} {K : PySem.W.Frag} {mg mb : Str → Option Value} {k : Nat} {fa a : Addr} {cs : List (Addr × Addr)} {sp : Sp} {s1 : Shared} {vs : List Value} {ns : List Int}
/-- the script's object -/
abbrev scrO (vs : List Value) : Obj := { cls := .type "list", data := .seq vs.toArray }
abbrev tabO : Obj := { cls := .none, data := .fields #[] }
theorem law_callG (KX : K.In s1.heap) (hns : s1.heap.Ns mainGlobals mg) (hb : s1.heap.Ns builtinsNs mb) (hbb : ∀ x : Str, x ≠ "__name__" → mb x = bootBuiltins x) (hlim : s1.heap.NoLimit) (hg : s1.gens = #[])
    (hT : ∀ p ∈ cs, s1.heap.get? p.2 = some tabO) (nT : ∀ p ∈ cs, K.lookup p.2 = none) (C : ∀ p ∈ cs, PySem.W.CodeHd s1.heap p.1 p.2)
    (hbm : ∃ (bm : Addr) (ob : Obj), mg "__builtins__" = some (.ref bm) ∧ bm ≠ builtinsNs ∧ s1.heap.get? bm = some ob ∧ ob.cls = .type "module" ∧ ob.dict = some builtinsNs ∧ ob.data = .plain)
    (ha : s1.heap.get? a = some (scrO vs)) (hi : IntsAre vs ns) (hl : ns.length ≤ sizeLine) (hr : Room k callerA)
    (F : ∀ base : Heap, K.In base → base.Ns mainGlobals mg → (∀ p ∈ cs, TabB base mg p.1 p.2) → OkG P w K mg base k fa sp)
    (hsp : ∀ H : Hp, (∀ p ∈ cs, H p.2 = some (.tbl #[])) → SqF K H a (ns.map V.int) → sp [.ref a] H (fun v _ => v = .bl true) fun _ _ _ => False) :
    codeAny (model P w) callerA (.call (.ref fa) ⟨[.ref a], []⟩) (fun r s' => r = .ok (.ret (.bool true)) ∧ OldK s1.heap s'.heap ∧ s'.os = s1.os ∧ AllBare s'.gens) s1 := by
  classical
  have rv := vals_ints hi
  let tabs : List Addr := cs.map (·.2)
  have tabAt : ∀ b, b ∈ tabs → s1.heap.get? b = some tabO ∧ K.lookup b = none ∧ ∃ c, (c, b) ∈ cs := fun b hb => by
    obtain ⟨p, hp, rfl⟩ := List.mem_map.mp hb
    exact ⟨hT p hp, nT p hp, p.1, hp⟩
  have scrNo : a ∉ tabs := fun z => by
    have q := (tabAt a z).1
    rw [ha] at q
    cases q
  -- the tables are tracked, and the script where it is none of the module's own
  let H : Hp := fun b => if b ∈ tabs then some (.tbl #[]) else if b = a ∧ K.lookup a = none then some (.frz (scrO vs) (.lst (ns.map V.int))) else none
  have HT1 : ∀ b, b ∈ tabs → H b = some (.tbl #[]) := fun b h => if_pos h
  have HA1 : K.lookup a = none → H a = some (.frz (scrO vs) (.lst (ns.map V.int))) := fun h => (if_neg scrNo).trans (if_pos ⟨rfl, h⟩)
  have HO : ∀ b u, H b = some u → (b ∈ tabs ∧ u = .tbl #[]) ∨ (b = a ∧ K.lookup a = none ∧ u = .frz (scrO vs) (.lst (ns.map V.int))) := fun b u e => by
    by_cases hb : b ∈ tabs
    · rw [HT1 b hb] at e
      cases e
      exact .inl ⟨hb, rfl⟩
    · by_cases h2 : b = a ∧ K.lookup a = none
      · have e' : H b = some (.frz (scrO vs) (.lst (ns.map V.int))) := (if_neg hb).trans (if_pos h2)
        rw [e'] at e
        cases e
        exact .inr ⟨h2.1, h2.2, rfl⟩
      · have e' : H b = none := (if_neg hb).trans (if_neg h2)
        rw [e'] at e
        cases e
  have tracked : ∀ b u, H b = some u → K.lookup b = none ∧ (s1.heap.get? b = some tabO ∨ s1.heap.get? b = some (scrO vs)) := fun b u e => by
    rcases HO b u e with ⟨h, _⟩ | ⟨rfl, h, _⟩
    · exact ⟨(tabAt b h).2.1, .inl (tabAt b h).1⟩
    · exact ⟨h, .inr ha⟩
  have untr : ∀ {b : Addr} {o : Obj}, s1.heap.get? b = some o → o ≠ tabO → o ≠ scrO vs → H b = none := fun {b o} e n1 n2 => by
    cases q : H b with
    | none => rfl
    | some u =>
      rcases (tracked b u q).2 with z | z
      · rw [e] at z; exact absurd (Option.some.inj z) n1
      · rw [e] at z; exact absurd (Option.some.inj z) n2
  have inB : ∀ {b : Addr} {o : Obj}, s1.heap.get? b = some o → o ≠ tabO → o ≠ scrO vs → (hidT s1.heap H).get? b = some o := fun e n1 n2 => hidT_get e (untr e n1 n2)
  have nsB : ∀ {b : Addr} {m : Str → Option Value}, s1.heap.Ns b m → (hidT s1.heap H).Ns b m := fun {b m} ⟨o, es, ep, e, d, r⟩ => ⟨o, es, ep, inB e (fun z => by rw [z] at d; cases d) (fun z => by rw [z] at d; cases d), d, r⟩
  have kB : K.In (hidT s1.heap H) := fun b o e => hidT_get (KX b o e) (by
    cases q : H b with
    | none => rfl
    | some u =>
      rw [(tracked b u q).1] at e
      cases e)
  have mB : L2.Mod K mg (hidT s1.heap H) := ⟨kB, nsB hns, ⟨mb, nsB hb, hbb⟩, let ⟨mc, h1, h2⟩ := hlim; ⟨mc, nsB h1, h2⟩⟩
  have okB : HOk P w H s1.heap := fun b u e => by
    rcases HO b u e with ⟨h, rfl⟩ | ⟨rfl, h, rfl⟩
    · exact (tabAt b h).1
    · exact ⟨ha, by rw [List.length_map]; exact hl, vs, _, rv, ha⟩
  have tB : ∀ p ∈ cs, TabB (hidT s1.heap H) mg p.1 p.2 := fun p hp => by
    refine ⟨?_, ?_, fun z => ?_⟩
    · obtain ⟨o, us, file, tf, flags, tg, inF, text, tt, e1, r1, r2, r3, rest⟩ := C p hp
      refine ⟨o, us, file, tf, flags, tg, inF, text, tt, inB e1 (fun z => ?_) (fun z => ?_), r1, r2, r3, rest⟩
      · rw [z] at r2
        cases r2
        simp at r3
      · rw [z] at r2
        cases r2
    · obtain ⟨bm, ob, b1, b2, b3, b4, b5, b6⟩ := hbm
      have n1 : ob ≠ tabO := fun z => by rw [z] at b6; cases b6
      have n2 : ob ≠ scrO vs := fun z => by rw [z] at b6; cases b6
      refine ⟨bm, ob, b1, b2, fun q => ?_, fun q => ?_, inB b3 n1 n2, b4, b5, b6⟩
      · obtain ⟨o, es, ep, e, hd, _⟩ := hns
        rw [q, e] at b3
        cases b3
        rw [hd] at b6
        cases b6
      · rw [q, hT p hp] at b3
        exact n1 (Option.some.inj b3).symm
    · obtain ⟨o, es, ep, e, hd, _⟩ := hns
      rw [z, hT p hp] at e
      cases e
      cases hd
  have sq : SqF K H a (ns.map V.int) := by
    cases hk : K.lookup a with
    | none => exact .inl ⟨scrO vs, HA1 hk⟩
    | some o =>
      have e := KX a o hk
      rw [ha] at e
      cases e
      exact .inr <| .inr ⟨_, vs.toArray, _, hk, rfl, rfl, rfl, by rw [List.size_toArray, hi.length]; exact hl, by simpa using rv⟩
  have e0 : Env0 P w K mg (hidT s1.heap H) callerA [] s1 H := ⟨rfl, mB, fun b o e => of_hidT e, Nat.le_of_eq (hidT_size _ _), trivial, (fun b hb => by cases (show b ∈ ([] : List Addr) from hb)), okB, .of_eq hg⟩
  refine codeAny_mono (F _ kB (nsB hns) tB callerA [] s1 H [.ref a] [.ref a] (fun v _ => v = .bl true) (fun _ _ _ => False) hr rfl e0 (.cons rfl .nil) (hsp H (fun p hp => HT1 _ (List.mem_map.mpr ⟨p, hp, rfl⟩)) sq)) fun r s' h => ?_
  cases r with
  | error e => exact False.elim h
  | ok fl =>
    cases fl with
    | next => exact False.elim h
    | brk => exact False.elim h
    | cont => exact False.elim h
    | ret u =>
      obtain ⟨v, H', os, bare, un, hok', ru, q⟩ := h
      have q' : v = .bl true := q
      subst q'
      obtain rfl : u = Value.bool true := ru
      have rest : ∀ b o, b ∉ tabs → s1.heap.get? b = some o → s'.heap.get? b = some o := fun b o nb e => by
        cases q : H b with
        | none => exact un.keep b o e q (fun z => nomatch (show b ∈ ([] : List Addr) from z)) (fun z => nomatch z)
        | some u =>
          rcases HO b u q with ⟨z, _⟩ | ⟨rfl, _, rfl⟩
          · exact absurd z nb
          · obtain ⟨e2, _⟩ := hok' b _ (un.frzs b _ _ q)
            rw [ha] at e
            cases e
            exact e2
      have grown : ∀ b, b ∈ tabs → ∃ more : Array Value, s'.heap.get? b = some { cls := .none, data := .fields more } := fun b hb => by
        obtain ⟨more, z⟩ := un.tbls b #[] (HT1 b hb)
        exact ⟨_, hok' b _ z⟩
      refine ⟨rfl, ⟨fun b o e => ?_, fun b o e => ?_⟩, os, bare⟩
      · by_cases hb : b ∈ tabs
        · obtain ⟨more, hm⟩ := grown b hb
          obtain ⟨t1, _, c, hc⟩ := tabAt b hb
          rw [t1] at e
          cases e
          exact .inr (.inl ⟨((C _ hc).tab t1).isCodeTable, rfl, #[], more, rfl, by rw [Array.empty_append]; exact hm⟩)
        · exact .inl (rest b o hb e)
      · by_cases hb : b ∈ tabs
        · obtain ⟨more, hm⟩ := grown b hb
          exact ⟨_, hm⟩
        · exact ⟨o, rest b o hb e⟩
end
/-- what is known of the law's promise at the head's heap h -/
def LawAtG (l : PySem.W.OpenLaw) (w : World) (K : PySem.W.Frag) (k n : Nat) (mg : Str → Option Value) (fa : Addr) (h : Heap) : Prop :=
  ∃ (cs : List (Addr × Addr)) (sp : Sp), (∀ p ∈ cs, h.get? p.2 = some tabO) ∧ (∀ p ∈ cs, K.lookup p.2 = none) ∧ (∀ p ∈ cs, PySem.W.CodeHd h p.1 p.2) ∧
    (∀ (H : Hp) (a : Addr) (ns : List Int), ns.length ≤ n → (∀ z ∈ ns, Builtin.Int.intBits z ≤ 1048576) → (∀ p ∈ cs, H p.2 = some (.tbl #[])) → SqF K H a (ns.map V.int) → sp [.ref a] H (fun v _ => v = .bl true) fun _ _ _ => False) ∧
    ∀ base : Heap, K.In base → base.Ns mainGlobals mg → (∀ p ∈ cs, TabB base mg p.1 p.2) → OkG l.prog w K mg base k fa sp
theorem walk_ofG {l : PySem.W.OpenLaw} {n k : Nat} {q : Program} {loose : List Str} {XP : (Str → Option Value) → Heap → Prop} {YP : World → Heap → Prop} {d : DefRec} {K : Params → PySem.W.Frag}
    (hn : l.most = some n) (hn2 : n ≤ sizeLine) (hdf : d.params.defaults = []) (hr : Room k callerA) (hY : ∀ (w : World) (h : Heap), YP w h → (K w.params).In h)
    (F : ∀ (w : World) (mg : Str → Option Value) (fa : Addr) (h : Heap), YP w h → (K w.params).In h → h.Ns mainGlobals mg → mg d.name = some (.ref fa) → LawAtG l w (K w.params) k n mg fa h) :
    PySem.W.WalkO q loose XP YP l.row.toRowW d [] (fun f vs => PySem.call f vs) := by
  refine Att.attach_callB hn hdf fun w s₀ s₁ mg mb fa o pm cd doc a vs ns G Y ho hd hcd hmg hobj hints hlen hbits hg => ?_
  obtain ⟨cs, sp, hT, nT, C, hsp, hF⟩ := F w mg fa _ Y (hY w _ Y) G.T.g hmg
  exact law_callG (hY w _ Y) G.T.g G.T.b G.T.builtins G.T.nolimit hg hT nT C G.T.bmain hobj hints (Nat.le_trans hlen hn2) hr hF (fun H hH hS => hsp H a ns hlen hbits hH hS)
end Sx

/-! S10: the sort by a key over a tuple; more rules that texts of sets want. -/
namespace Sx
open PySem PySem.Spec PyProof.Rows L2
open LamX (Tabs TabS TabB ExtN)
section
variable {prog : Program} {w : World} {A : Around} {E : Value → Shared → Prop} {s : Shared}
theorem gather_tup {t : Addr} {us : List Value} {Q : List Value → Shared → Prop} (ht : IsTup s.heap t us.toArray) (hz : us.length ≤ sizeLine)
    (q : Q us { s with heap := (s.heap.push (seqObj "list" #[] 0)).update s.heap.objs.size (Obj.mapSeq (· ++ us.toArray)) }) : wpAny (model prog w) A (collect (.ref t)) Q E s := by
  obtain ⟨ob, e1, e2, n, e3⟩ := ht
  have e4 : (s.heap.push (seqObj "list" #[] 0)).get? t = some ob := Heap.get?_push_of_some _ e1
  have e5 : (s.heap.push (seqObj "list" #[] 0)).get? s.heap.objs.size = some (seqObj "list" #[] 0) := Heap.get?_push_size _ rfl
  unfold collect
  apply wpAny_bind
  apply wpAny_runValue
  apply codeAny_builtin entry_proto_collect'
  show wpAny _ _ (newList [] >>= fun l => again (.builtin "list.__iadd__" ⟨[l, .ref t], []⟩)) _ _ s
  apply wpAny_bind
  refine wpAny_newList ?_ (Nat.zero_le _)
  apply wpAny_pure
  refine ⟨Code.quiet_builtin _ (by decide +kernel), ?_⟩
  apply codeAny_builtin entry_list_iadd'
  show wpAny _ _ (Builtin.List.listExtendWith (.ref s.heap.objs.size) (.ref t) (.ref s.heap.objs.size)) _ _ { s with heap := s.heap.push (seqObj "list" #[] 0) }
  unfold Builtin.List.listExtendWith
  apply wpAny_bind
  refine wpAny_typeOf (T := "tuple") (v := .ref t) ⟨ob, e4, e2⟩ ?_
  have b1 : (Value.type "tuple" == Value.type "tuple") = true := by rfl
  rw [if_pos (by rw [b1]; simp)]
  refine wpAny_bind (listItems_at e4 e3 (wpAny_bind (listItems_at e5 rfl ?_)))
  rw [if_neg (by simp)]
  refine wpAny_bind (listUpdate_at e5 rfl ?_ (Nat.zero_le _) ?_)
  · apply wpAny_pure
    show wpAny (model prog w) A (load s.heap.objs.size >>= fun o => match o.data with | .seq xs _ => pure xs.toList | _ => unsupported "internal:collect") Q E { s with heap := (s.heap.push (seqObj "list" #[] 0)).update s.heap.objs.size (Obj.mapSeq (· ++ us.toArray)) }
    refine wpAny_bind (wpAny_load (get?_update_seq e5 _) ?_)
    have e6 : ((#[] : Array Value) ++ us.toArray).toList = us := by simp
    show wpAny _ _ (pure ((#[] : Array Value) ++ us.toArray).toList) Q E _
    rw [e6]
    apply wpAny_pure
    exact q
  · have : ((#[] : Array Value) ++ us.toArray).size = us.length := by simp
    show ((#[] : Array Value) ++ us.toArray).size ≤ sizeLine + 1
    omega
theorem sort_tupKw {t : Addr} {us : List Value} {kw : List (Str × Value)} {Q : Value → Shared → Prop} (ht : IsTup s.heap t us.toArray) (hz : us.length ≤ sizeLine) (g1 : argsOk "sorted" ⟨[.ref t], kw⟩) (g2 : ∀ x, argsOk "list.sort" ⟨[.ref x], kw⟩)
    (run : ∀ E2 : Value → Shared → Prop, wpAny (model prog w) A.in1.in1 (Builtin.«list.sort» ⟨[.ref (s.heap.objs.size + 1)], kw⟩) (fun f s2 => f = .done (.ret .none) ∧ Q (.ref (s.heap.objs.size + 1)) s2) E2 { s with heap := PySem.W.copyHeap s.heap us }) :
    wpAny (model prog w) A (call (.builtin "sorted") [.ref t] kw) Q E s := by
  apply PyProof.Rows.call_function_entry_kw kind_sorted plain_sorted entry_sorted g1
  unfold Builtin.«sorted»
  apply wpAny_bind (m := checkCount "sorted" 1 1 _)
  apply wpAny_pure
  apply wpAny_bind
  apply gather_tup ht hz
  apply wpAny_bind
  refine wpAny_newList ?_ hz
  have sz : ((s.heap.push (seqObj "list" #[] 0)).update s.heap.objs.size (Obj.mapSeq (· ++ us.toArray))).objs.size = s.heap.objs.size + 1 := by
    rw [Heap.size_update, PyProof.Rows.size_push']
  show wpAny _ _ _ _ _ { s with heap := PySem.W.copyHeap s.heap us }
  rw [sz]
  apply wpAny_bind
  apply wpAny_holding
  refine PyProof.Rows.wpAny_call_entry_kw slot_list_sort ⟨_, PySem.W.copyHeap_at s.heap us, rfl⟩ entry_list_sort ?rn (g2 _)
  show wpAny (model prog w) A.in1.in1 (Builtin.«list.sort» ⟨[.ref (s.heap.objs.size + 1)], kw⟩) _ _ _
  refine wpAny_mono (run _) (fun f s2 z => ?_) fun _ _ e => e
  obtain ⟨z1, z2⟩ := z
  subst z1
  exact ⟨_, rfl, wpAny_pure ⟨_, rfl, z2⟩⟩
theorem sort_tupKey {β : Type} {R : Value → β → Prop} {t : Addr} {us : List Value} {bs : List β} {f : Value} {kw : List (Str × Value)} {b : Bool} {Q : Value → Shared → Prop} (kf : β → PyData) (ht : IsTup s.heap t us.toArray) (each : PySem.W.EachIs R us bs) (al : PySem.W.AllAlike (bs.map kf)) (so : PySem.W.Sortable (bs.map kf)) (hz : bs.length ≤ sizeLine)
    (un : ∀ x, x ∈ bs → A.units + 2 + (kf x).depth < cLine) (g1 : argsOk "sorted" ⟨[.ref t], kw⟩) (g2 : ∀ x, argsOk "list.sort" ⟨[.ref x], kw⟩) (tr : ∀ x, Builtin.«list.sort» ⟨[.ref x], kw⟩ = PyProof.Rows.ksk_tree x f b)
    (turn : ∀ (v : Value) (x : β), R v x → x ∈ bs → ∀ (h : Heap) (tk : Nat), (∀ b o, s.heap.get? b = some o → h.get? b = some o) → wpAny (model prog w) A.in1.in1 (call f [v]) (PySem.W.KeyPure (kf x) { s with heap := h, toks := tk }) (fun _ _ => False) { s with heap := h, toks := tk })
    (fin : ∀ out c h2 tk, (∀ b o, s.heap.get? b = some o → h2.get? b = some o) → h2.get? (s.heap.objs.size + 1) = some (seqObj "list" (List.toArray out) c) → PySem.W.EachIs R out (bs.mergeSort (PySem.W.dataLe b kf)) → Q (.ref (s.heap.objs.size + 1)) { s with heap := h2, toks := tk }) :
    wpAny (model prog w) A (call (.builtin "sorted") [.ref t] kw) Q E s := by
  have old : ∀ {g : Heap}, PySem.W.KeepsBut (s.heap.objs.size + 1) (PySem.W.copyHeap s.heap us) g → ∀ b o, s.heap.get? b = some o → g.get? b = some o := by
    intro g kp b o q
    have lt := Heap.lt_size q
    exact kp b o (Nat.ne_of_lt (Nat.lt_succ_of_lt lt)) (PySem.W.copyHeap_old q)
  have ul : us.length = bs.length := each.length
  refine sort_tupKw ht (by rw [ul]; exact hz) g1 g2 fun E2 => ?_
  rw [tr]
  refine PySem.W.keyH_tree (kz := bs.map kf) (s := { s with heap := PySem.W.copyHeap s.heap us }) (PySem.W.copyHeap_at s.heap us) (by rw [List.length_map, ul]) (by rw [ul]; exact hz) al so (PySem.W.bound_map (A := A.in1.in1) un) ?_ ?_
  · exact PySem.W.keyH_turns (s := { s with heap := PySem.W.copyHeap s.heap us }) each fun v x r m h tk kp => turn v x r m h tk (old kp)
  · intro h2 tk out c kp z1 z2
    exact ⟨rfl, fin out c h2 tk (old kp) z1 (PySem.W.keyedOut_each kf z2 each)⟩
end
def tSortKeyT (K : PySem.W.Frag) (T : List (Addr × Str)) (te : TE) : TE := fun σ H Q => te σ H fun x H1 => ∃ (a : Addr) (bs : List (V × Option Int)), x = .ref a ∧ SqT K H1 a (bs.map (·.1)) ∧
  (∀ b ∈ bs, ∃ t hi, b.1 = .ref t ∧ SqT K H1 t [endU b.2, hi]) ∧ Tabs T H1 ∧
  ∀ H2, ExtN H1 H2 → Tabs T H2 → ∀ p, H2 p = none → Q (.ref p) (upd H2 p (.lst ((bs.mergeSort fun u v => ltKey u.2 v.2).map (·.1))))
theorem pe_sortKeyT {X : Cx} {T : List (Addr × Str)} {c P : Addr} {e body a b : Expr} {te : TE} {params : Arguments} {scope : Scope} {x : Str} {p pos lpos kpos : Pos} {p1 p2 p3 p4 p5 p6 p7 p8 p9 p10 p11 : Pos} {j1 j2 j3 j4 x1 : Nat} {k : Nat}
    (TB : TabB X.base X.mg c P) (hcode : X.env.code = .ref c) (hm : (P, X.env.qual ++ "<lambda>") ∈ T) (hu : ∀ p ∈ T, p.1 = P → p.2 = X.env.qual ++ "<lambda>") (hr : Room (k + 1) X.A) (hg : Gl X "sorted") (hs : X.mg "sorted" = none) (he : PE X e te)
    (hdef : defaultsOf params X.env = ([], [])) (h1 : scope.kind = .function) (h2 : scope.isCoroutine = false) (h3 : scope.isGenerator = false) (h4 : scope.names = [(x, .local)]) (hd : (x == ("__debug__" : Str)) = false)
    (hb0 : body = .Tuple [a, b] x1 p11) (ha : a = .Compare (.Subscript (.Name x p1) (.Constant (.int 0) j1 p2) p3) [.IsNot] [.Constant .none j2 p4] p5)
    (hb : b = .BoolOp .Or [.Subscript (.Name x p6) (.Constant (.int 0) j3 p7) p8, .Constant (.int 0) j4 p9] p10)
    (hbind : ∀ (q : Str) (pm ctv : Value) (c' : Addr) (v : Value), bindArgs (PySem.W.kla_fn "<lambda>" q params body scope [] pm (.ref c') ctv) ⟨[v], []⟩ = pure [(x, v)])
    (hst : backTo pos (starEach [e] X.env) = [(false, eval e X.env)] := by rfl) : PE X (.Call (.Name "sorted" p) [e] [⟨some "key", .Lambda params body scope lpos, kpos⟩] pos) (tSortKeyT X.K T te) := by
  refine ⟨fun pins s σ H Q I h => ?_⟩
  refine wpAny_Call_Name_kw (ld_blt I hg hs PyProof.Rows.boot_sorted ?_)
  refine PyProof.Rows.callWith_kw ?_ (by rw [hst]; rfl) (by rw [hst]; rfl) rfl rfl
  rw [hst]
  refine Calls.spliced_cons (thn (he.run pins s σ H _ I h) fun u s1 ⟨z, H1, I1, rx, l, bs, ex, sq, ht, tb, q⟩ => Calls.spliced_nil ?_)
  subst ex
  obtain rfl : u = Value.ref l := rx
  show wpAny _ _ (evalAll ((do let v ← eval (.Lambda params body scope lpos) X.env; standAt pos; pure v) :: [])) _ _ s1
  have hfree : ∀ y ∈ scope.names, y.2 = .free → ∃ c, X.env.cells.lookup y.1 = some c := fun y hy e => by
    rw [h4, List.mem_singleton] at hy
    rw [hy] at e
    cases e
  have hcl : cloFrom X.env.cells scope.names [] = [] := by
    rw [h4]
    rfl
  refine wpAny_evalAll_cons (wpAny_bind (LamX.lam_make2 I1 TB hcode hm hu tb hdef hfree fun f c' pm ctv H2 s2 I2 eN T2 hf hfn hfr hco => wpAny_bind (wpAny_standAt (wpAny_pure (wpAny_evalAll_nil ?_)))))
  rw [hcl] at hf
  have st2 : ∀ {t : Addr} {xs : List V}, SqT X.K H1 t xs → SqT X.K H2 t xs := fun {t xs} z => by
    rcases z with (z | ⟨o, z⟩) | z
    · exact .inl (.inl (eN _ _ z fun _ y => nomatch y))
    · exact .inl (.inr ⟨o, eN _ _ z fun _ y => nomatch y⟩)
    · exact .inr z
  obtain ⟨its, rv, pl, hz⟩ := I2.tuple (st2 sq)
  have hz' : bs.length ≤ sizeLine := by
    rw [List.length_map] at hz
    exact hz
  obtain ⟨⟨oc, cs, ct, hoc, hdc, hvc⟩, _⟩ := (show (∃ (oc : Obj) (vs : Array Value) (t : Tok), s2.heap.get? c' = some oc ∧ oc.data = .fields vs ∧ vs[1]? = some (.str (X.env.qual ++ "<lambda>") t)) ∧ _ from I2.hok c' _ hco)
  show wpAny _ _ (call (.builtin "sorted") [.ref l] [(Str.ofString "key", .ref f)]) _ _ s2
  have each : PySem.W.EachIs (fun v b => RelV b.1 v ∧ ∃ t lo hi, v = .ref t ∧ IsTup s2.heap t #[lo, hi] ∧ endV b.2 lo) its bs := each_vals rv fun b hb u ru => by
    obtain ⟨t, hi, e1, e2⟩ := ht b hb
    refine ⟨ru, ?_⟩
    rw [e1] at ru
    obtain ⟨ts, rt, tt, _⟩ := I2.tuple (st2 e2)
    cases rt with
    | cons ra rt =>
      cases rt with
      | cons rb rt =>
        cases rt
        refine ⟨t, _, _, ru, tt, ?_⟩
        cases hb2 : b.2 with
        | none => rw [hb2] at ra; exact ra
        | some n => rw [hb2] at ra; exact ra
  have hdep := hr.dp
  have hun := hr.un
  refine sort_tupKey (b := false) (fun b : V × Option Int => keyP b.2) ?hl each (PySem.W.AllAlike.of fun _ _ => by simp [keyP, PySem.W.alike, PySem.W.alikeAll]) (PySem.W.Sortable.tuples fun _ => ⟨_, _, rfl⟩) hz' (fun b _ => ?hu) (PyProof.Rows.ksk_s1 _ _) (fun _ => PyProof.Rows.ksk_l1 _ _) (fun _ => PyProof.Rows.ksk_t1 _ _)
    (fun v b hv _ h tk kp => ?turn) fun out cc h' tk kp hD eo => ?fin
  case hl => exact pl
  case hu =>
    have hd : (keyP b.2).depth = 1 := by simp [keyP, PyData.depth, PyData.depthAll]
    rw [hd]
    omega
  case turn =>
    obtain ⟨_, t, lo, hi, rfl, tt, he⟩ := hv
    refine lam_call (hi := hi) (s := { s2 with heap := h, toks := tk }) (kp _ _ hf) ⟨oc, cs, ct, kp _ _ hoc, hdc, hvc⟩ ?_ (I2.nolimit.keeps kp) (fun v => hbind _ _ _ _ v) h1 h2 h3 h4 hd hb0 ha hb ?_ he
    · show X.A.depth < recursionLimit
      omega
    · obtain ⟨ob, e, z⟩ := tt
      exact ⟨ob, kp _ _ e, z⟩
  case fin =>
    have hn : H2 (s2.heap.objs.size + 1) = none := I2.hok.fresh (Nat.le_succ _)
    have eo' : PySem.W.EachIs (fun v b => RelV b.1 v ∧ ∃ t lo hi, v = .ref t ∧ IsTup s2.heap t #[lo, hi] ∧ endV b.2 lo) out (bs.mergeSort fun u v => ltKey u.2 v.2) := eo
    have ok : ObjOk X.prog X.w (upd H2 (s2.heap.objs.size + 1) (.lst ((bs.mergeSort fun u v => ltKey u.2 v.2).map (·.1)))) h' (s2.heap.objs.size + 1) (.lst ((bs.mergeSort fun u v => ltKey u.2 v.2).map (·.1))) :=
      ⟨by rw [List.length_map, List.length_mergeSort]; exact hz', out, cc, vals_each (fun _ _ z => z.1) eo', hD⟩
    exact ⟨.ref (s2.heap.objs.size + 1), _, I2.laid kp (Nat.le_succ _) ok, rfl, q H2 eN T2 _ hn⟩
section
variable {y : Sy} {e body a b : Expr} {ρ : Rho} {η : Sto} {Q : D → Sto → Prop}
theorem ev_sortKeyT {c P : Addr} {params : Arguments} {scope : Scope} {x : Str} {p pos lpos kpos : Pos} {p1 p2 p3 p4 p5 p6 p7 p8 p9 p10 p11 : Pos} {j1 j2 j3 j4 x1 : Nat} {k : Nat}
    (TB : TabB y.X.base y.X.mg c P) (hcode : y.X.env.code = .ref c) (hm : (P, y.X.env.qual ++ "<lambda>") ∈ y.T) (hu : ∀ p ∈ y.T, p.1 = P → p.2 = y.X.env.qual ++ "<lambda>") (hr : Room (k + 1) y.X.A) (hs : y.X.mg "sorted" = none)
    (h : EV y e ρ η fun d η1 => ∃ (os : List (Option Int × D)), d = .tup (os.map stD) ∧ ∀ q, Q (.ref q) ((q, .lst ((sortK os).map stD)) :: η1))
    (hdef : defaultsOf params y.X.env = ([], []) := by rfl) (h1 : scope.kind = .function := by rfl) (h2 : scope.isCoroutine = false := by rfl) (h3 : scope.isGenerator = false := by rfl) (h4 : scope.names = [(x, .local)] := by rfl) (hd : (x == ("__debug__" : Str)) = false := by decide)
    (hb0 : body = .Tuple [a, b] x1 p11 := by rfl) (ha : a = .Compare (.Subscript (.Name x p1) (.Constant (.int 0) j1 p2) p3) [.IsNot] [.Constant .none j2 p4] p5 := by rfl)
    (hb : b = .BoolOp .Or [.Subscript (.Name x p6) (.Constant (.int 0) j3 p7) p8, .Constant (.int 0) j4 p9] p10 := by rfl)
    (hbind : ∀ (q : Str) (pm ctv : Value) (c' : Addr) (v : Value), bindArgs (PySem.W.kla_fn "<lambda>" q params body scope [] pm (.ref c') ctv) ⟨[v], []⟩ = pure [(x, v)] := by intros; rfl)
    (hg : Gl y.X "sorted" := by rfl) (hst : backTo pos (starEach [e] y.X.env) = [(false, eval e y.X.env)] := by rfl) : EV y (.Call (.Name "sorted" p) [e] [⟨some "key", .Lambda params body scope lpos, kpos⟩] pos) ρ η Q := fun fp H0 σ H S w Qv o =>
  wE_of (pe_sortKeyT TB hcode hm hu hr hg hs pe_w hdef h1 h2 h3 h4 hd hb0 ha hb hbind hst) (h fp H0 σ H S w _ fun d η1 z H1 hq S1 k1 a1 => by
    obtain ⟨os, rfl, q⟩ := hq
    obtain ⟨l, xs, e0, e1, as⟩ := at_tup.mp a1
    obtain ⟨cs, c1, c2, c3⟩ := ats_pairs as
    have eb : (cs.map fun c => (c.1, c.2.1)).map (·.1) = xs := by rw [List.map_map, ← c1]; rfl
    refine ⟨l, cs.map fun c => (c.1, c.2.1), e0, by rw [eb]; exact e1, fun u hu => ?_, S1.tb, fun H2 eN T2 r nr => ?_⟩
    · obtain ⟨c, hc, rfl⟩ := List.mem_map.mp hu
      obtain ⟨t, ys, et, sq, at2⟩ := at_tup.mp (c3 c hc)
      obtain ⟨v1, v2, rfl, z1, z2⟩ := two_of at2
      exact ⟨t, v2, et, by rw [← at_end z1]; exact sq⟩
    · have g : Gr y.G H1 H2 := ⟨fun b ob e n => eN b ob e n, fun _ => T2⟩
      have srt : ((cs.map fun c => (c.1, c.2.1)).mergeSort fun u v => ltKey u.2 v.2).map (·.1) = (cs.mergeSort fun u v => ltKey u.2.1 v.2.1).map (·.1) := by
        rw [← List.map_mergeSort (r := fun u v => ltKey u.2.1 v.2.1) (f := fun c : V × (Option Int × D) => (c.1, c.2.1)) (fun _ _ _ _ => rfl), List.map_map]
        rfl
      have srt2 : sortK os = (cs.mergeSort fun u v => ltKey u.2.1 v.2.1).map (·.2) := by
        unfold sortK
        rw [← c2]
        exact (List.map_mergeSort (r := fun u v => ltKey u.2.1 v.2.1) (s := fun u v => ltKey u.1 v.1) (f := fun c : V × (Option Int × D) => c.2) (fun _ _ _ _ => rfl)).symm
      rw [srt]
      have as2 : D.Ats y.G H2 ((sortK os).map stD) ((cs.mergeSort fun u v => ltKey u.2.1 v.2.1).map (·.1)) := by
        rw [srt2]
        exact pairs_ats fun c hc => (c3 c ((List.mergeSort_perm cs _).mem_iff.mp hc)).kp g.kp
      exact o (.ref r) _ _ _ (q r) ((S1.gr g).alloc nr ⟨_, rfl, as2⟩) (k1.trans (g.kp.trans (Gr.new nr : Gr y.G H2 _).kp)) (at_ref.mpr rfl))
end
end Sx

/-! S11: comprehensions with a test or as an assignment; dict displays; slices of the script; turned lists; x in a list of data. -/
namespace Sx
open PySem PySem.Spec PyProof.Rows L2
open LamX (Tabs TabS TabB ExtN)
def TTV (y : Sy) (tt : TT) (ρ : Rho) (η : Sto) (Q : Bool → Sto → Prop) : Prop := ∀ fp H0 σ H, Sl y.G fp H0 H σ ρ η → ∀ Qv : Bool → Hp → Prop, OutB y fp H0 σ ρ H Q Qv → tt σ H Qv
theorem ttv_yes {y : Sy} {ρ : Rho} {η : Sto} {Q : Bool → Sto → Prop} (h : Q true η) : TTV y tYes ρ η Q := fun fp H0 σ H S Qv o => o true η H h S Kp.refl
section
variable {y : Sy} {tg iter elt c : Expr} {ρ : Rho} {η : Sto} {Q : D → Sto → Prop} {pos : Pos} {scope : Scope} {own : List (Str × Nat)}
def wTB (y : Sy) (scope : Scope) (c : Expr) : TT := fun σ H Q => ∀ s H' C cl fp, wT (y.X.blk s H' scope (compEnvC scope cl C y.X.env) fp) c σ H Q
def wEB (y : Sy) (scope : Scope) (c : Expr) : TE := fun σ H Q => ∀ s H' C cl fp, wE (y.X.blk s H' scope (compEnvC scope cl C y.X.env) fp) c σ H Q
theorem ttv_one {QB : Bool → Sto → Prop} (h : ∀ s H C cl fp, TV (y.blk s H scope C cl fp) c ρ η QB) : TTV y (wTB y scope c) ρ η QB := fun fp H0 σ H S Qv o s H' C cl f => h s H' C cl f fp H0 σ H S wk_blk Qv fun b η' H2 q S' k' => o b η' H2 q S' k'
theorem lc_read {tt : TT} (t : Tg) (hns : ∀ i ∈ t.ns, i ∈ own.map (·.2)) {fp : List Addr} {H0 : Hp} {σ : L2.St} {H : Hp} (S : Sl y.G fp H0 H σ ρ η) (w : Wk y fp H0)
    (h : IV y tg iter ρ η fun items P η1 => ∃ I : Nat → List D → Sto → Prop, (∀ i acc η', I i acc η' → P η' ∧ acc.length < sizeLine) ∧ I 0 [] η1 ∧
      (∀ i d acc η', items[i]? = some d → I i acc η' → t.ok d ∧ TTV y tt (t.set d (wipeR ρ (own.map (·.2)))) η' fun b η2 => (b = true → ∀ s H C cl fp, EV (y.blk s H scope C cl fp) elt (t.set d (wipeR ρ (own.map (·.2)))) η2 fun e η3 => I (i + 1) (acc ++ [e]) η3) ∧ (b = false → I (i + 1) acc η2)) ∧
      ∀ acc η' D, I items.length acc η' → Q (.ref D) ((D, .lst acc) :: η')) (Qv : VK) (o : Out y fp H0 σ ρ H Q Qv) : tLc (wI y.X tg iter) (tgR y.X.K t) tt (wEB y scope elt) (own.map (·.2)) σ H Qv :=
  h fp H0 σ H S w _ fun items P η1 J H1 q S1 k1 src => by
      obtain ⟨I, hI, h0, hs, hd⟩ := q
      intro L nD
      have S1w := S1.wipe (own.map (·.2))
      have g1 : Gr y.G H1 (upd H1 L (.lst [])) := Gr.new nD
      refine ⟨fun i m H' => m = items.length - i ∧ i ≤ items.length ∧ ∃ acc η', I i acc η' ∧ Sl y.G fp H0 H' (L2.wipe σ (own.map (·.2))) (wipeR ρ (own.map (·.2))) ((L, .lst acc) :: η') ∧ Sl y.G fp H0 H' σ ρ ((L, .lst acc) :: η') ∧ Kp y.G H1 H',
        ⟨items.length, by simp, Nat.zero_le _, [], η1, h0, S1w.alloc nD (m := .lst []) ⟨[], rfl, ats_nil.mpr rfl⟩, S1.alloc nD (m := .lst []) ⟨[], rfl, ats_nil.mpr rfl⟩, g1.kp⟩, ?_⟩
      rintro i m H' ⟨rfl, hi, acc, η', hI', S', Sf, k'⟩
      obtain ⟨p', al⟩ := hI i acc η' hI'
      have nd' := S'.st.nd
      rw [List.map_cons, List.nodup_cons] at nd'
      have S2 : Sl y.G fp H0 H' (L2.wipe σ (own.map (·.2))) (wipeR ρ (own.map (·.2))) η' := S'.sub (fun p hp => List.mem_cons_of_mem _ hp) nd'.2
      by_cases hlt : i < items.length
      · refine .inr ⟨src.go i fp H0 _ H' _ η' S2 p' k' hlt, fun H2 => ∃ acc2 η2, I (i + 1) acc2 η2 ∧ Sl y.G fp H0 H2 (L2.wipe σ (own.map (·.2))) (wipeR ρ (own.map (·.2))) ((L, .lst acc2) :: η2) ∧ Sl y.G fp H0 H2 σ ρ ((L, .lst acc2) :: η2) ∧ Kp y.G H1 H2,
          fun H2 ⟨acc2, η2, z⟩ => ⟨items.length - (i + 1), by omega, rfl, hlt, acc2, η2, z⟩, fun x H2 yy => ?_⟩
        obtain ⟨g, az⟩ := src.yld i items[i] fp H0 _ H' _ η' x H2 S2 p' k' (List.getElem?_eq_getElem hlt) yy
        obtain ⟨h1, h2⟩ := hs i items[i] acc η' (List.getElem?_eq_getElem hlt) hI'
        have S3 := S'.gr g
        refine tg_run (G := y.G) (S2.gr g) az h1 fun σ2 Sσ hw => ⟨?_, ?_⟩
        · have hw2 : ∀ ws : List Nat, (∀ i ∈ t.ns, i ∈ ws) → L2.wipe σ2 ws = L2.wipe (L2.wipe σ (own.map (·.2))) ws := by
            intro ws hws
            have e1 : ∀ (us : List Nat) (τ : L2.St), (∀ i ∈ us, i ∈ ws) → L2.wipe (L2.wipe τ us) ws = L2.wipe τ ws := by
              intro us
              induction us with
              | nil => intro τ _; rfl
              | cons u us ih =>
                intro τ hu
                show L2.wipe ((L2.wipe τ us).set u none) ws = _
                rw [wipe_set (hu u List.mem_cons_self), ih τ fun i hi => hu i (List.mem_cons_of_mem _ hi)]
            rw [← e1 t.ns σ2 hws, hw, e1 t.ns _ hws]
          rw [hw2 _ hns]
          have e2 : ∀ (us ws : List Nat) (τ : L2.St), (∀ i ∈ us, i ∈ ws) → L2.wipe (L2.wipe τ us) ws = L2.wipe τ ws := by
            intro us
            induction us with
            | nil => intro _ τ _; rfl
            | cons u us ih =>
              intro ws τ hu
              show L2.wipe ((L2.wipe τ us).set u none) ws = _
              rw [wipe_set (hu u List.mem_cons_self), ih ws τ fun i hi => hu i (List.mem_cons_of_mem _ hi)]
          exact e2 _ _ σ fun _ h => h
        · have back : ∀ (acc2 : List D) (η2 : Sto) (H3 : Hp), Fr y.G (η'.map fun (x : Addr × Mo) => x.1) H2 H3 → Tabs y.G.T H3 → Ht y.G (η'.map fun (x : Addr × Mo) => x.1) H2 H3 η2 →
              Sl y.G fp H0 H3 (L2.wipe σ (own.map (·.2))) (wipeR ρ (own.map (·.2))) ((L, .lst acc) :: η2) ∧ Sl y.G fp H0 H3 σ ρ ((L, .lst acc) :: η2) := by
            intro acc2 η2 H3 f3 t3 h3
            have pc : ∀ p ∈ η' ++ [(L, Mo.lst acc)], p ∈ (L, Mo.lst acc) :: η' := fun p hp => by
              rcases List.mem_append.mp hp with z | z
              · exact List.mem_cons_of_mem _ z
              · rw [List.mem_singleton] at z
                rw [z]
                exact List.mem_cons_self
            have pn : ((η' ++ [(L, Mo.lst acc)]).map (·.1)).Nodup := by
              rw [List.map_append, List.nodup_append]
              refine ⟨nd'.2, by simp, fun a ha b hb e => ?_⟩
              rw [List.map_singleton, List.mem_singleton] at hb
              subst e
              rw [hb] at ha
              exact nd'.1 ha
            have P5 : (η2 ++ [(L, Mo.lst acc)]).Perm ((L, Mo.lst acc) :: η2) := List.perm_append_comm
            exact ⟨(Sl.after (η := η') (ηr := [(L, .lst acc)]) (S3.sub pc pn) f3 t3 h3).perm P5, (Sl.after (η := η') (ηr := [(L, .lst acc)]) ((Sf.gr g).sub pc pn) f3 t3 h3).perm P5⟩
          refine h2 (η'.map fun (x : Addr × Mo) => x.1) H2 σ2 H2 Sσ.rebase _ fun b η2 H3 hb S4 k3 => ?_
          cases b with
          | false =>
            rw [if_neg Bool.false_ne_true]
            obtain ⟨z1, z2⟩ := back acc η2 H3 S4.fr S4.tb S4.st
            exact ⟨acc, η2, hb.2 rfl, z1, z2, (k'.trans g.kp).trans k3⟩
          | true =>
            rw [if_pos rfl]
            intro s' H'' C cl f
            refine hb.1 rfl s' H'' C cl f (η'.map fun (x : Addr × Mo) => x.1) H2 σ2 H3 S4 wk_blk _ fun e η3 v H4 hI3 S5 k4 a3 => ?_
            obtain ⟨S6, Sf6⟩ := back acc η3 H4 S5.fr S5.tb S5.st
            obtain ⟨ob, eo, xs, rfl, as⟩ := S6.st.at_ L _ List.mem_cons_self
            have pm : ∀ m : Mo, putM L m ((L, Mo.lst acc) :: η3) = (L, m) :: η3 := fun m => by
              unfold putM
              rw [if_pos rfl]
            have aa : D.Ats y.G H4 (acc ++ [e]) (xs ++ [v]) := as.append (D.Ats.one a3)
            have S7 := S6.put (a := L) (m' := .lst (acc ++ [e])) List.mem_cons_self ⟨_, rfl, aa⟩
            have Sf7 := Sf6.put (a := L) (m' := .lst (acc ++ [e])) List.mem_cons_self ⟨_, rfl, aa⟩
            rw [pm] at S7 Sf7
            refine ⟨xs, eo, ?_, acc ++ [e], η3, hI3, S7.1, Sf7.1, ((k'.trans g.kp).trans k3).trans (k4.trans S7.2)⟩
            rw [as.length]
            exact al
      · have ei : i = items.length := by omega
        subst ei
        exact .inl ⟨src.stop fp H0 _ H' _ η' S2 p' k', o (.ref L) _ _ H' (hd acc η' L hI') Sf (k1.trans k') (at_ref.mpr rfl)⟩
/-- [elt for tg in iter if c] -/
theorem ev_lcI (t : Tg) (hc : y.X.calm = true) (hN : y.X.N.Nodup) (ok : BlkOk y.X.N y.X.env.scope scope own)
    (hg : ∀ (s : Shared) (H : Hp) (C : Addr) (cl : List (Str × Addr)) (fp : List Addr), PG (y.X.blk s H scope (compEnvC scope cl C y.X.env) fp) tg (tgR y.X.K t)) (hns : ∀ i ∈ t.ns, i ∈ own.map (·.2))
    (h : IV y tg iter ρ η fun items P η1 => ∃ I : Nat → List D → Sto → Prop, (∀ i acc η', I i acc η' → P η' ∧ acc.length < sizeLine) ∧ I 0 [] η1 ∧
      (∀ i d acc η', items[i]? = some d → I i acc η' → t.ok d ∧ ∀ s H C cl fp, TV (y.blk s H scope C cl fp) c (t.set d (wipeR ρ (own.map (·.2)))) η' fun b η2 => (b = true → ∀ s H C cl fp, EV (y.blk s H scope C cl fp) elt (t.set d (wipeR ρ (own.map (·.2)))) η2 fun e η3 => I (i + 1) (acc ++ [e]) η3) ∧ (b = false → I (i + 1) acc η2)) ∧
      ∀ acc η' D, I items.length acc η' → Q (.ref D) ((D, .lst acc) :: η'))
    (hfs : ∀ x, foldedSetIterable iter y.X.env x = pure x := by intro _; rfl) : EV y (.ListComp elt [⟨tg, iter, [c], 0⟩] scope pos) ρ η Q := fun fp H0 σ H S w Qv o =>
  wE_of (pe_lc (tt := wTB y scope c) (te := wEB y scope elt) hc hN pi_w ok hg (fun s H C cl fp => pts_one ⟨fun pins s' σ H' Q I q => (q s H C cl fp).run pins s' I⟩) (fun s H C cl fp => ⟨fun pins s' σ H' Q I q => (q s H C cl fp).run pins s' I⟩) hfs)
    (lc_read t hns S w (fun fp2 H2 σ2 H3 S2 w2 R r => h fp2 H2 σ2 H3 S2 w2 R fun items P η' J H' q => r items P η' J H' (by
      obtain ⟨I, h1, h2, h3, h4⟩ := q
      exact ⟨I, h1, h2, fun i d acc η' e z => ⟨(h3 i d acc η' e z).1, ttv_one (h3 i d acc η' e z).2⟩, h4⟩)) Qv o)
variable {N : En}
/-- name = [elt for tg in iter] on one line -/
theorem sv_setLc {x : Str} {py spos : Pos} (j : Nat) (t : Tg) (hc : y.X.calm = true) (hN : y.X.N.Nodup) (hy : y.X.N[j]? = some x) (hyl : y.X.env.scope.names.lookup x = some .local)
    (hsw : swapsWith (.ListComp elt [⟨tg, iter, [], 0⟩] scope pos) (some (.Name x py)) spos.line y.X.env = pure true) (ok : BlkOk y.X.N y.X.env.scope scope own)
    (hg : ∀ (s : Shared) (H : Hp) (C : Addr) (cl : List (Str × Addr)) (fp : List Addr), PG (y.X.blk s H scope (compEnvC scope cl C y.X.env) fp) tg (tgR y.X.K t)) (hns : ∀ i ∈ t.ns, i ∈ own.map (·.2))
    (h : IV y tg iter ρ η fun items P η1 => ∃ I : Nat → List D → Sto → Prop, (∀ i acc η', I i acc η' → P η' ∧ acc.length < sizeLine) ∧ I 0 [] η1 ∧
      (∀ i d acc η', items[i]? = some d → I i acc η' → t.ok d ∧ ∀ s H C cl fp, EV (y.blk s H scope C cl fp) elt (t.set d (wipeR ρ (own.map (·.2)))) η' fun e η2 => I (i + 1) (acc ++ [e]) η2) ∧
      ∀ acc η' L, I items.length acc η' → N.nx (ρ.set j (some (.ref L))) ((L, .lst acc) :: η'))
    (hfs : ∀ x, foldedSetIterable iter y.X.env x = pure x := by intro _; rfl) : SV y (.Assign [.Name x py] (.ListComp elt [⟨tg, iter, [], 0⟩] scope pos) spos) ρ η N := fun fp H0 σ H S w D' o =>
  wS_of (ps_setLc (te := wEB y scope elt) hc hN hy hyl hsw pi_w ok hg (fun _ _ _ _ _ => pts_nil) (fun s H C cl fp => ⟨fun pins s' σ H' Q I q => (q s H C cl fp).run pins s' I⟩) hfs)
    (lc_read (Q := fun d η' => N.nx (ρ.set j (some d)) η') t hns S w (fun fp2 H2 σ2 H3 S2 w2 R r => h fp2 H2 σ2 H3 S2 w2 R fun items P η' J H' q => r items P η' J H' (by
      obtain ⟨I, h1, h2, h3, h4⟩ := q
      exact ⟨I, h1, h2, fun i d acc η' e z => ⟨(h3 i d acc η' e z).1, ttv_yes ⟨fun _ => (h3 i d acc η' e z).2, fun z => nomatch z⟩⟩, h4⟩)) _
      fun d η' v H' q S' k' a' => o.nx _ _ _ _ q (S'.set a') k')
end
/-! ### data -/
section
variable {y : Sy} {e : Expr} {ρ : Rho} {η : Sto} {Q : D → Sto → Prop} {pos p1 p2 p3 : Pos} {k : Nat}
theorem opw_inD {a b : D} {x : PyData} {zs : List PyData} (hu : y.X.A.units + 65 < cLine) (ha : PdAt η a x) (hb : PdAt η b (.list zs)) (h1 : SeqAt.shaped x = true) (h2 : SeqAt.shaped (.list zs) = true) (h : Q (.bl (zs.any fun z => PyData.eqv z x)) η) : OpW y (compareOp .In) a b ρ η Q := fun fp H0 σ H S w Qv o v v' av bv =>
  wO_of (op_inD hu) ⟨x, zs, ha.dp S av, hb.dp S bv, h1, h2, o _ η _ H h S Kp.refl (at_bl.mpr rfl)⟩
theorem ats_rev {G : Gv} {H : Hp} : ∀ {ds : List D} {xs : List V}, D.Ats G H ds xs → D.Ats G H ds.reverse xs.reverse
  | [], _, h => by
    rw [ats_nil.mp h]
    exact ats_nil.mpr rfl
  | d :: ds, xs, h => by
    obtain ⟨x, ys, rfl, a, r⟩ := ats_cons.mp h
    rw [List.reverse_cons, List.reverse_cons]
    exact (ats_rev r).append (D.Ats.one a)
theorem ev_revL (h : EV y e ρ η fun d η1 => ∃ p ds, d = .ref p ∧ (p, .lst ds) ∈ η1 ∧ ∀ q, Q (.ref q) ((q, .lst ds.reverse) :: η1)) : EV y (.Subscript e (.Slice none none (some (.UnaryOp .USub (.Constant (.int 1) k p1) p2)) p3) pos) ρ η Q := fun fp H0 σ H S w Qv o =>
  wE_of (pe_revL pe_w) (h fp H0 σ H S w _ fun d η1 x H1 h1 S1 k1 a1 => by
    obtain ⟨p, ds, rfl, hm, q⟩ := h1
    obtain ⟨_, e1, xs, rfl, as⟩ := S1.st.at_ _ _ hm
    exact ⟨p, xs, at_ref.mp a1, SqL.of e1, fun z nz => o _ _ _ _ (q z) (S1.alloc nz ⟨_, rfl, ats_rev as⟩) (k1.trans (Gr.new nz : Gr y.G H1 _).kp) (at_ref.mpr rfl)⟩)
/-- a slice of a list that no one changes -/
theorem ev_sliceRo {lo hi : Option Expr} (h : EV y e ρ η fun d η1 => OV y lo ρ η1 fun l η2 => OV y hi ρ η2 fun u η3 => ∃ ds, d = .ro ds ∧ ∀ q, Q (.ref q) ((q, .lst (cutD ds l u)) :: η3)) : EV y (.Subscript e (.Slice lo hi none p2) pos) ρ η Q := fun fp H0 σ H S w Qv o =>
  wE_of (pe_slice sl_list pe_w po_w po_w) (h fp H0 σ H S w _ fun d η1 x H1 h1 S1 k1 a1 => ov_run h1 S1 w _ fun l η2 H2 h2 S2 k2 => ov_run h2 S2 w _ fun u η3 H3 h3 S3 k3 => by
    obtain ⟨ds, rfl, q⟩ := h3
    obtain ⟨p, xs, ep, sq, as0⟩ := at_ro.mp a1
    have as := as0.kp (k2.trans k3)
    refine ⟨p, xs, ep, ((k2.trans k3).seqF sq).sq, fun z nz => o _ _ _ _ (q z) (S3.alloc nz ⟨_, rfl, ?_⟩) (k1.trans (k2.trans (k3.trans (Gr.new nz : Gr y.G H3 _).kp))) (at_ref.mpr rfl)⟩
    unfold cutD cutV
    rw [as.length]
    exact D.Ats.take _ (D.Ats.drop _ as))
/-! ### {k: v, ..} -/
def PV (y : Sy) : List (Expr × Expr) → Rho → Sto → (List (D × D) → Sto → Prop) → Prop
  | [], _, η, Q => Q [] η
  | (k, v) :: r, ρ, η, Q => EV y k ρ η fun d1 η1 => EV y v ρ η1 fun d2 η2 => PV y r ρ η2 fun ps η3 => Q ((d1, d2) :: ps) η3
def trsOf (X : Cx) (kvs : List (Expr × Expr)) : List (TE × TE) := kvs.map fun p => (wE X p.1, wE X p.2)
theorem pps_w {X : Cx} {pos : Pos} : ∀ kvs : List (Expr × Expr), PPs X pos (kvs.map fun p => some p.1) (kvs.map (·.2)) (trsOf X kvs)
  | [] => pps_nil
  | (k, v) :: r => pps_cons pe_w pe_w (pps_w r)
def AtsP (G : Gv) (H : Hp) : List (D × D) → List (V × V) → Prop
  | [], xs => xs = []
  | (d, e) :: ds, xs => ∃ x z ys, xs = (x, z) :: ys ∧ D.At G H d x ∧ D.At G H e z ∧ AtsP G H ds ys
theorem pv_run : ∀ {kvs : List (Expr × Expr)} {ρ : Rho} {η : Sto} {QP : List (D × D) → Sto → Prop} {fp : List Addr} {H0 H : Hp} {σ : L2.St} (h : PV y kvs ρ η QP) (S : Sl y.G fp H0 H σ ρ η) (w : Wk y fp H0) (Qv : List (V × V) → Hp → Prop)
    (o : ∀ ps η' xs H', QP ps η' → Sl y.G fp H0 H' σ ρ η' → Kp y.G H H' → AtsP y.G H' ps xs → Qv xs H'), tPairs (trsOf y.X kvs) σ H Qv
  | [], ρ, η, QP, fp, H0, H, σ, h, S, w, Qv, o => o [] η [] H h S Kp.refl rfl
  | (k, v) :: r, ρ, η, QP, fp, H0, H, σ, h, S, w, Qv, o => h fp H0 σ H S w _ fun d1 η1 x1 H1 h1 S1 k1 a1 => h1 fp H0 σ H1 S1 w _ fun d2 η2 x2 H2 h2 S2 k2 a2 =>
    pv_run h2 S2 w _ fun ps η3 xs H3 h3 S3 k3 as => o _ η3 _ H3 h3 S3 (k1.trans (k2.trans k3)) ⟨x1, x2, xs, rfl, a1.kp (k2.trans k3), a2.kp k3, as⟩
theorem atsP_str {G : Gv} {H : Hp} : ∀ {kvs : List (Str × D)} {xs : List (V × V)}, AtsP G H (kvs.map fun p => (D.str p.1, p.2)) xs → ∃ ws : List (Str × V), xs = (ws.map fun p => (Sum.inr p.1, p.2)).map (fun (kv : Key × V) => (kV kv.1, kv.2)) ∧ ws.map (·.1) = kvs.map (·.1) ∧ D.Aks G H (kvs.map fun p => (Sum.inr p.1, p.2)) (ws.map fun p => (Sum.inr p.1, p.2))
  | [], xs, h => ⟨[], h, rfl, rfl⟩
  | (k, d) :: r, xs, h => by
    obtain ⟨x, z, ys, rfl, a1, a2, a3⟩ := h
    obtain ⟨ws, e1, e2, e3⟩ := atsP_str a3
    refine ⟨(k, z) :: ws, ?_, by rw [List.map_cons, List.map_cons, e2], z, _, rfl, a2, e3⟩
    rw [at_str.mp a1, e1]
    rfl
theorem putK_out (kvs : List (Key × V)) (k : Key) (v : V) (h : k ∉ kvs.map (·.1)) : putK kvs k v = kvs ++ [(k, v)] := by
  unfold putK
  rw [if_neg]
  intro e
  rw [List.any_eq_true] at e
  obtain ⟨p, hp, e⟩ := e
  exact h (List.mem_map.mpr ⟨p, hp, of_decide_eq_true e⟩)
theorem merge_nd : ∀ (more kvs : List (Key × V)), ((kvs ++ more).map (·.1)).Nodup → mergeK kvs more = kvs ++ more
  | [], kvs, _ => by
    rw [List.append_nil]
    rfl
  | p :: r, kvs, h => by
    have h0 : p.1 ∉ kvs.map (·.1) := by
      rw [List.map_append, List.nodup_append] at h
      exact fun z => h.2.2 _ z _ List.mem_cons_self rfl
    have e : kvs ++ [p] ++ r = kvs ++ p :: r := by simp
    show mergeK (putK kvs p.1 p.2) r = _
    rw [putK_out kvs p.1 p.2 h0, merge_nd r _ (by rw [e]; exact h), e]
theorem ev_disp (es : List (Expr × Expr)) (h : ∀ p, PV y es ρ ((p, .dic []) :: η) fun ps η1 => ∃ (kvs : List (Str × D)) (η2 : Sto), ps = kvs.map (fun p => (D.str p.1, p.2)) ∧ (kvs.map (·.1)).Nodup ∧ kvs.length ≤ 15 ∧ η1.Perm ((p, .dic []) :: η2) ∧ Q (.ref p) ((p, .dic (kvs.map fun p => (Sum.inr p.1, p.2))) :: η2))
    (h0 : es ≠ []) (h15 : es.length ≤ 15) : EV y (.Dict (es.map fun p => some p.1) (es.map (·.2)) pos) ρ η Q := fun fp H0 σ H S w Qv o =>
  wE_of (pe_disp (pps_w es) (by simp) (by simp) (by simpa using h0) (by simpa using h15)) fun p np => by
    have g : Gr y.G H (upd H p (.dK [])) := Gr.new np
    refine pv_run (h p) (S.alloc np (m := .dic []) ⟨[], rfl, rfl⟩) w _ fun ps η1 xs H1 q S1 k1 as => ?_
    obtain ⟨kvs, η2, rfl, nd, hl, pm, q⟩ := q
    obtain ⟨ws, rfl, wk, ak⟩ := atsP_str as
    have S2 := S1.perm pm
    obtain ⟨ob, eo, ws0, rfl, z⟩ := S2.st.at_ p _ List.mem_cons_self
    have z : ws0 = [] := z
    subst z
    have wl : ws.length = kvs.length := by
      have := congrArg List.length wk
      simpa using this
    refine ⟨eo, ws.map fun p => (Sum.inr p.1, p.2), rfl, by rw [List.length_map, wl]; exact hl, ?_⟩
    rw [merge_nd _ [] (by
      rw [List.nil_append, List.map_map]
      have : (ws.map ((fun (x : Key × V) => x.1) ∘ fun (p : Str × V) => (Sum.inr p.1, p.2))) = (ws.map (·.1)).map Sum.inr := by
        rw [List.map_map]
        rfl
      rw [this, wk]
      exact List.Pairwise.map _ (fun a b hab e => hab (Sum.inr.inj e)) nd), List.nil_append]
    have P := S2.put (a := p) (m' := .dic (kvs.map fun p => (Sum.inr p.1, p.2))) List.mem_cons_self ⟨_, rfl, ak⟩
    have pm2 : putM p (.dic (kvs.map fun p => (Sum.inr p.1, p.2))) ((p, Mo.dic []) :: η2) = (p, .dic (kvs.map fun p => (Sum.inr p.1, p.2))) :: η2 := by
      unfold putM
      rw [if_pos rfl]
    rw [pm2] at P
    exact o _ _ _ _ q P.1 (g.kp.trans (k1.trans P.2)) (at_ref.mpr rfl)
end
end Sx

/-! S12: handier forms: a comprehension as a map; targets of two names; a for loop as a fold. -/
namespace Sx
open PySem PySem.Spec PyProof.Rows L2
open LamX (Tabs TabS TabB ExtN)
theorem pg_two {X : Cx} {i j : Nat} {x z : Str} {k : Nat} {p1 p2 pos : Pos} (hc : X.calm = true) (hN : X.N.Nodup) (hi : X.N[i]? = some x) (hj : X.N[j]? = some z) (hx : Loc X.env.scope x) (hz : Loc X.env.scope z)
    (hf : X.fn x = true ∨ X.env.scope.names.lookup x = some .local) (hf2 : X.fn z = true ∨ X.env.scope.names.lookup z = some .local) : PG X (.Tuple [.Name x p1, .Name z p2] k pos) (tgR X.K (.tp [i, j])) :=
  pg_tup hc (pgs_cons (pg_name hN hi hx hf) (pgs_cons (pg_name hN hj hz hf2) pgs_nil))
section
variable {y : Sy} {tg iter elt c : Expr} {ρ : Rho} {η : Sto} {Q : D → Sto → Prop} {pos : Pos} {scope : Scope} {own : List (Str × Nat)} {α : Type}
theorem map_take_next {β : Type} {xs : List α} {g : α → β} {i : Nat} {x : α} (e : xs[i]? = some x) : (xs.take i).map g ++ [g x] = (xs.take (i + 1)).map g := by
  rw [List.take_add_one, e, List.map_append]
  rfl
theorem lcM_inv {E : D → Rho → Sto → (D → Sto → Prop) → Prop} {t : Tg} {xs : List α} {dα g : α → D} {items : List D} {P : Sto → Prop} {η1 : Sto} {ρ2 : Rho} {R : Addr → List D → Sto → Prop} (hi : items = xs.map dα) (p : P η1) (hl : xs.length < sizeLine)
    (hs : ∀ x ∈ xs, t.ok (dα x) ∧ E (dα x) ρ2 η1 fun e η2 => e = g x ∧ η2 = η1) (mono : ∀ d ρ η (Q Q' : D → Sto → Prop), E d ρ η Q → (∀ e η, Q e η → Q' e η) → E d ρ η Q') (hq : ∀ L, R L (xs.map g) η1) :
    ∃ I : Nat → List D → Sto → Prop, (∀ i acc η', I i acc η' → P η' ∧ acc.length < sizeLine) ∧ I 0 [] η1 ∧
      (∀ i d acc η', items[i]? = some d → I i acc η' → t.ok d ∧ E d ρ2 η' fun e η2 => I (i + 1) (acc ++ [e]) η2) ∧ ∀ acc η' L, I items.length acc η' → R L acc η' := by
  subst hi
  refine ⟨fun i acc η' => η' = η1 ∧ acc = (xs.take i).map g, ?_, ⟨rfl, rfl⟩, ?_, ?_⟩
  · rintro i acc η' ⟨rfl, rfl⟩
    refine ⟨p, ?_⟩
    rw [List.length_map, List.length_take]
    omega
  · rintro i d acc η' e ⟨rfl, rfl⟩
    rw [List.getElem?_map, Option.map_eq_some_iff] at e
    obtain ⟨x, e, rfl⟩ := e
    obtain ⟨h1, h2⟩ := hs x (List.mem_of_getElem? e)
    refine ⟨h1, mono _ _ _ _ _ h2 ?_⟩
    rintro u η2 ⟨rfl, rfl⟩
    exact ⟨rfl, map_take_next e⟩
  · rintro acc η' L ⟨rfl, rfl⟩
    rw [List.length_map, List.take_length]
    exact hq L
theorem ev_lcM (t : Tg) (xs : List α) (dα g : α → D) (hc : y.X.calm = true) (hN : y.X.N.Nodup) (ok : BlkOk y.X.N y.X.env.scope scope own)
    (hg : ∀ (s : Shared) (H : Hp) (C : Addr) (cl : List (Str × Addr)) (fp : List Addr), PG (y.X.blk s H scope (compEnvC scope cl C y.X.env) fp) tg (tgR y.X.K t)) (hns : ∀ i ∈ t.ns, i ∈ own.map (·.2))
    (h : IV y tg iter ρ η fun items P η1 => items = xs.map dα ∧ P η1 ∧ xs.length < sizeLine ∧ (∀ x ∈ xs, t.ok (dα x) ∧ ∀ s H C cl fp, EV (y.blk s H scope C cl fp) elt (t.set (dα x) (wipeR ρ (own.map (·.2)))) η1 fun e η2 => e = g x ∧ η2 = η1) ∧
      ∀ L, Q (.ref L) ((L, .lst (xs.map g)) :: η1))
    (hfs : ∀ x, foldedSetIterable iter y.X.env x = pure x := by intro _; rfl) : EV y (.ListComp elt [⟨tg, iter, [], 0⟩] scope pos) ρ η Q :=
  ev_lc t hc hN ok hg hns (fun fp H0 σ H S w R r => h fp H0 σ H S w R fun items P η1 J H1 q => r items P η1 J H1 (by
    obtain ⟨hi, p, hl, hs, hq⟩ := q
    exact lcM_inv (E := fun d ρ2 η Q => ∀ s H C cl fp, EV (y.blk s H scope C cl fp) elt (t.set d ρ2) η Q) (R := fun L acc η' => Q (.ref L) ((L, .lst acc) :: η')) hi p hl hs (fun d ρ η Q Q' a b s H C cl fp => (a s H C cl fp).mono b) hq)) hfs
variable {N : En}
theorem sv_setLcM {x : Str} {py spos : Pos} (j : Nat) (t : Tg) (xs : List α) (dα g : α → D) (hc : y.X.calm = true) (hN : y.X.N.Nodup) (ok : BlkOk y.X.N y.X.env.scope scope own)
    (hg : ∀ (s : Shared) (H : Hp) (C : Addr) (cl : List (Str × Addr)) (fp : List Addr), PG (y.X.blk s H scope (compEnvC scope cl C y.X.env) fp) tg (tgR y.X.K t)) (hns : ∀ i ∈ t.ns, i ∈ own.map (·.2))
    (h : IV y tg iter ρ η fun items P η1 => items = xs.map dα ∧ P η1 ∧ xs.length < sizeLine ∧ (∀ x ∈ xs, t.ok (dα x) ∧ ∀ s H C cl fp, EV (y.blk s H scope C cl fp) elt (t.set (dα x) (wipeR ρ (own.map (·.2)))) η1 fun e η2 => e = g x ∧ η2 = η1) ∧
      ∀ L, N.nx (ρ.set j (some (.ref L))) ((L, .lst (xs.map g)) :: η1))
    (hsw : swapsWith (.ListComp elt [⟨tg, iter, [], 0⟩] scope pos) (some (.Name x py)) spos.line y.X.env = pure true) (hy : y.X.N[j]? = some x := by rfl) (hyl : y.X.env.scope.names.lookup x = some .local := by rfl)
    (hfs : ∀ x, foldedSetIterable iter y.X.env x = pure x := by intro _; rfl) : SV y (.Assign [.Name x py] (.ListComp elt [⟨tg, iter, [], 0⟩] scope pos) spos) ρ η N :=
  sv_setLc j t hc hN hy hyl hsw ok hg hns (fun fp H0 σ H S w R r => h fp H0 σ H S w R fun items P η1 J H1 q => r items P η1 J H1 (by
    obtain ⟨hi, p, hl, hs, hq⟩ := q
    exact lcM_inv (E := fun d ρ2 η Q => ∀ s H C cl fp, EV (y.blk s H scope C cl fp) elt (t.set d ρ2) η Q) (R := fun L acc η' => N.nx (ρ.set j (some (.ref L))) ((L, .lst acc) :: η')) hi p hl hs (fun d ρ η Q Q' a b s H C cl fp => (a s H C cl fp).mono b) hq)) hfs
end
/-! ### plain data of ends -/
def endP (o : Option Int) : PyData := match o with
  | none => .none
  | some i => .int i
theorem pd_end {η : Sto} {o : Option Int} : PdAt η (endD o) (endP o) := by
  cases o with
  | none => exact .non
  | some i => exact .int i
theorem pd_map {η : Sto} {α : Type} {f : α → D} {g : α → PyData} (h : ∀ a, PdAt η (f a) (g a)) : ∀ xs : List α, PdAll η (xs.map f) (xs.map g)
  | [] => .nil
  | x :: xs => .cons (h x) (pd_map h xs)
theorem pd_mapM {η : Sto} {α : Type} {f : α → D} {g : α → PyData} : ∀ xs : List α, (∀ a ∈ xs, PdAt η (f a) (g a)) → PdAll η (xs.map f) (xs.map g)
  | [], _ => .nil
  | x :: xs, h => .cons (h x List.mem_cons_self) (pd_mapM xs fun a ha => h a (List.mem_cons_of_mem _ ha))
section
theorem canLay_map {α : Type} {g : α → PyData} (h : ∀ a, (g a).canLay0 = true) : ∀ xs : List α, PyData.canLayAll0 (xs.map g) = true
  | [] => by simp [PyData.canLayAll0]
  | x :: xs => by simp [PyData.canLayAll0, h x, canLay_map h xs]
theorem depth_map {α : Type} {g : α → PyData} {n : Nat} (h : ∀ a, (g a).depth ≤ n) : ∀ xs : List α, PyData.depthAll (xs.map g) ≤ n
  | [] => by simp [PyData.depthAll]
  | x :: xs => by
    have := h x
    have := depth_map h xs
    simp only [List.map_cons, PyData.depthAll]
    omega
theorem endP_lay {o : Option Int} : (endP o).canLay0 = true := by cases o <;> simp [endP, PyData.canLay0]
theorem endP_depth {o : Option Int} : (endP o).depth = 0 := by cases o <;> simp [endP, PyData.depth]
def pairP (s : Option Int × Option Int) : PyData := .tuple [endP s.1, endP s.2]
theorem pairP_lay {s : Option Int × Option Int} : (pairP s).canLay0 = true := by simp [pairP, PyData.canLay0, PyData.canLayAll0, endP_lay]
theorem pairP_depth {s : Option Int × Option Int} : (pairP s).depth = 1 := by simp [pairP, PyData.depth, PyData.depthAll, endP_depth]
theorem shapedT {α : Type} {g : α → PyData} {n : Nat} (h1 : ∀ a, (g a).canLay0 = true) (h2 : ∀ a, (g a).depth ≤ n) (hn : n < 64) (xs : List α) : SeqAt.shaped (.tuple (xs.map g)) = true := by
  unfold SeqAt.shaped
  have := depth_map h2 xs
  rw [Bool.and_eq_true]
  refine ⟨by simp only [PyData.canLay0, canLay_map h1 xs], decide_eq_true ?_⟩
  simp only [PyData.depth]
  omega
theorem shapedL {α : Type} {g : α → PyData} {n : Nat} (h1 : ∀ a, (g a).canLay0 = true) (h2 : ∀ a, (g a).depth ≤ n) (hn : n < 64) (xs : List α) : SeqAt.shaped (.list (xs.map g)) = true := by
  unfold SeqAt.shaped
  have := depth_map h2 xs
  rw [Bool.and_eq_true]
  refine ⟨by simp only [PyData.canLay0, canLay_map h1 xs], decide_eq_true ?_⟩
  simp only [PyData.depth]
  omega
theorem eqvAll_map {α : Type} [DecidableEq α] {g : α → PyData} (h : ∀ a b, PyData.eqv (g a) (g b) = decide (a = b)) : ∀ xs ys : List α, PyData.eqvAll (xs.map g) (ys.map g) = decide (xs = ys)
  | [], [] => by simp [PyData.eqvAll]
  | [], _ :: _ => by simp [PyData.eqvAll]
  | _ :: _, [] => by simp [PyData.eqvAll]
  | x :: xs, y :: ys => by
    simp only [List.map_cons, PyData.eqvAll, h, eqvAll_map h xs ys]
    by_cases e1 : x = y <;> by_cases e2 : xs = ys <;> simp [e1, e2]
theorem endP_eqv (a b : Option Int) : PyData.eqv (endP a) (endP b) = decide (a = b) := by
  cases a <;> cases b <;> simp [endP, PyData.eqv]
  rename_i i j
  by_cases e : i = j <;> simp [e]
theorem pairP_eqv (a b : Option Int × Option Int) : PyData.eqv (pairP a) (pairP b) = decide (a = b) := by
  obtain ⟨a1, a2⟩ := a
  obtain ⟨b1, b2⟩ := b
  simp only [pairP, PyData.eqv, PyData.eqvAll, endP_eqv, Bool.and_true]
  by_cases e1 : a1 = b1 <;> by_cases e2 : a2 = b2 <;> simp [e1, e2]
theorem eqvT {α : Type} [DecidableEq α] {g : α → PyData} (h : ∀ a b, PyData.eqv (g a) (g b) = decide (a = b)) (xs ys : List α) : PyData.eqv (.tuple (xs.map g)) (.tuple (ys.map g)) = decide (xs = ys) := by
  simp only [PyData.eqv, eqvAll_map h]
theorem eqvL {α : Type} [DecidableEq α] {g : α → PyData} (h : ∀ a b, PyData.eqv (g a) (g b) = decide (a = b)) (xs ys : List α) : PyData.eqv (.list (xs.map g)) (.list (ys.map g)) = decide (xs = ys) := by
  simp only [PyData.eqv, eqvAll_map h]
end
section
variable {y : Sy} {e o : Expr} {ρ : Rho} {η : Sto} {Q : D → Sto → Prop} {pos p1 : Pos}
theorem ev_join (h : EV y o ρ η fun d η1 => TyD "str" η1 d ∧ AV y [e] ρ η1 fun ds η2 => MtW y "str.join" d ds ρ η2 Q) (hbase : attributeBase o "join" y.X.env (eval o y.X.env) = eval o y.X.env := by rfl) (hn : noStar e = true := by rfl) (hline : (p1.endLine == pos.line) = true := by rfl) :
    EV y (.Call (.Attribute o "join" p1) [e] [] pos) ρ η Q := ev_bm (T := "str") (name := "join") (id := "str.join") PySem.F.plainAttrs_str PySem.F.slot_str_join PySem.F.type_str_join h hbase (star_few (by rw [List.all_cons, hn]; rfl) (by show 1 < 30; decide)) hline (star_cons hn) rfl
theorem ev_split (h : EV y o ρ η fun d η1 => TyD "str" η1 d ∧ AV y [e] ρ η1 fun ds η2 => MtW y "str.split" d ds ρ η2 Q) (hbase : attributeBase o "split" y.X.env (eval o y.X.env) = eval o y.X.env := by rfl) (hn : noStar e = true := by rfl) (hline : (p1.endLine == pos.line) = true := by rfl) :
    EV y (.Call (.Attribute o "split" p1) [e] [] pos) ρ η Q := ev_bm (T := "str") (name := "split") (id := "str.split") PySem.F.plainAttrs_str PySem.F.slot_str_split PySem.F.type_str_split h hbase (star_few (by rw [List.all_cons, hn]; rfl) (by show 1 < 30; decide)) hline (star_cons hn) rfl
theorem ev_removeprefix (h : EV y o ρ η fun d η1 => TyD "str" η1 d ∧ AV y [e] ρ η1 fun ds η2 => MtW y "str.removeprefix" d ds ρ η2 Q) (hbase : attributeBase o "removeprefix" y.X.env (eval o y.X.env) = eval o y.X.env := by rfl) (hn : noStar e = true := by rfl) (hline : (p1.endLine == pos.line) = true := by rfl) :
    EV y (.Call (.Attribute o "removeprefix" p1) [e] [] pos) ρ η Q := ev_bm (T := "str") (name := "removeprefix") (id := "str.removeprefix") PySem.F.plainAttrs_str PySem.F.slot_str_removeprefix PySem.F.type_str_removeprefix h hbase (star_few (by rw [List.all_cons, hn]; rfl) (by show 1 < 30; decide)) hline (star_cons hn) rfl
theorem ev_append (h : EV y o ρ η fun d η1 => TyD "list" η1 d ∧ AV y [e] ρ η1 fun ds η2 => MtW y "list.append" d ds ρ η2 Q) (hbase : attributeBase o "append" y.X.env (eval o y.X.env) = eval o y.X.env := by rfl) (hn : noStar e = true := by rfl) (hline : (p1.endLine == pos.line) = true := by rfl) :
    EV y (.Call (.Attribute o "append" p1) [e] [] pos) ρ η Q := ev_bm (T := "list") (name := "append") (id := "list.append") PySem.F.plainAttrs_list PySem.F.slot_list_append PySem.F.type_list_append h hbase (star_few (by rw [List.all_cons, hn]; rfl) (by show 1 < 30; decide)) hline (star_cons hn) rfl
theorem ev_extend (h : EV y o ρ η fun d η1 => TyD "list" η1 d ∧ AV y [e] ρ η1 fun ds η2 => MtW y "list.extend" d ds ρ η2 Q) (hbase : attributeBase o "extend" y.X.env (eval o y.X.env) = eval o y.X.env := by rfl) (hn : noStar e = true := by rfl) (hline : (p1.endLine == pos.line) = true := by rfl) :
    EV y (.Call (.Attribute o "extend" p1) [e] [] pos) ρ η Q := ev_bm (T := "list") (name := "extend") (id := "list.extend") PySem.F.plainAttrs_list PySem.F.slot_list_extend PySem.F.type_list_extend h hbase (star_few (by rw [List.all_cons, hn]; rfl) (by show 1 < 30; decide)) hline (star_cons hn) rfl
theorem ev_pop (h : EV y o ρ η fun d η1 => TyD "list" η1 d ∧ MtW y "list.pop" d [] ρ η1 Q) (hbase : attributeBase o "pop" y.X.env (eval o y.X.env) = eval o y.X.env := by rfl) (hline : (p1.endLine == pos.line) = true := by rfl) :
    EV y (.Call (.Attribute o "pop" p1) [] [] pos) ρ η Q := ev_bm0 (T := "list") (name := "pop") (id := "list.pop") PySem.F.plainAttrs_list PySem.F.slot_list_pop PySem.F.type_list_pop h hbase hline
end
/-- a def of the module, with all that a call of it asks -/
structure Cal (P : Program) (w : World) (K : PySem.W.Frag) (mg : Str → Option Value) (base : Heap) (k : Nat) (x : Str) (ps : List Str) (sp : Sp) : Prop where
  ex : ∃ (f : Addr) (fd : FuncData), FnOk P w K mg base CX0 k f fd ps sp ∧ mg x = some (.ref f) ∧ PySem.W.keepIn K (.ref f) = true ∧ Binds K fd ps []
section
variable {y : Sy} {e : Expr} {es : List Expr} {ρ : Rho} {η : Sto} {Q : D → Sto → Prop} {pos p1 : Pos} {α : Type} {F : FS α} {k : Nat} {ps : List Str} {x : Str}
theorem ev_cal (C : Cal y.X.prog y.X.w y.X.K y.X.mg y.X.base k x ps (spOf y.G F)) (hr : Room k y.X.A)
    (h : AV y (e :: es) ρ η fun vs η1 => ∃ a ηr, vs = F.args a ∧ η1.Perm (F.st a ++ ηr) ∧ (∀ d η', F.ret a d η' → Q d (η' ++ ηr)) ∧ ∀ cls d H η', F.exc a cls d H η' → y.R cls d H ρ (η' ++ ηr)) (hg : Gl y.X x := by rfl)
    (hdb : (x == ("__debug__" : Str)) = false := by decide) (he : noStar e = true := by rfl) (hes : es.all noStar = true := by rfl) : EV y (.Call (.Name x p1) (e :: es) [] pos) ρ η Q := by
  obtain ⟨f, fd, K, hm, hk, hb⟩ := C.ex
  exact ev_fn K hr hm hk hb (fun fp H0 σ H S w Qv o => h fp H0 σ H S w Qv fun vs η1 xs H1 q S1 k1 a1 => o vs η1 xs H1 (let ⟨a, ηr, q1, q2, q3, q4⟩ := q; ⟨a, ηr, q1, q2, q3, q4⟩) S1 k1 a1) hg hdb (star_cons he) (star_any hes)
/-- .. with nothing of the store -/
theorem ev_cal0 (C : Cal y.X.prog y.X.w y.X.K y.X.mg y.X.base k x ps (spOf y.G F)) (hr : Room k y.X.A)
    (h : AV y (e :: es) ρ η fun vs η1 => ∃ a, vs = F.args a ∧ F.st a = [] ∧ (∀ d η', F.ret a d η' → Q d (η' ++ η1)) ∧ ∀ cls d H η', ¬ F.exc a cls d H η') (hg : Gl y.X x := by rfl)
    (hdb : (x == ("__debug__" : Str)) = false := by decide) (he : noStar e = true := by rfl) (hes : es.all noStar = true := by rfl) : EV y (.Call (.Name x p1) (e :: es) [] pos) ρ η Q :=
  ev_cal C hr (fun fp H0 σ H S w Qv o => h fp H0 σ H S w Qv fun vs η1 xs H1 q S1 k1 a1 => o vs η1 xs H1 (let ⟨a, q1, q2, q3, q4⟩ := q; ⟨a, η1, q1, by rw [q2]; exact List.Perm.refl _, q3, fun _ _ _ _ z => (q4 _ _ _ _ z).elim⟩) S1 k1 a1) hg hdb he hes
end
theorem SVs.drop {y : Sy} {sts : List Stmt} {ρ : Rho} {η η1 : Sto} {N : En} (s : η.Sublist η1) (h : SVs y sts ρ η N) : SVs y sts ρ η1 N := h.sub (fun _ z => s.subset z) fun n => (s.map _).nodup n
theorem TV.drop {y : Sy} {e : Expr} {ρ : Rho} {η η1 : Sto} {Q : Bool → Sto → Prop} (s : η.Sublist η1) (h : TV y e ρ η Q) : TV y e ρ η1 Q := fun fp H0 σ H S => h fp H0 σ H (S.sub (fun _ z => s.subset z) ((s.map _).nodup S.st.nd))
theorem WV.drop {y : Sy} {e : Expr} {ρ : Rho} {η η1 : Sto} {Q : Bool → Sto → Prop} (s : η.Sublist η1) (h : WV y e ρ η Q) : WV y e ρ η1 Q := fun fp H0 σ H S => h fp H0 σ H (S.sub (fun _ z => s.subset z) ((s.map _).nodup S.st.nd))
theorem EV.drop {y : Sy} {e : Expr} {ρ : Rho} {η η1 : Sto} {Q : D → Sto → Prop} (s : η.Sublist η1) (h : EV y e ρ η Q) : EV y e ρ η1 Q := h.sub (fun _ z => s.subset z) fun n => (s.map _).nodup n
theorem OpW.drop {y : Sy} {f : Value → Value → Sem Value} {a b : D} {ρ : Rho} {η η1 : Sto} {Q : D → Sto → Prop} (s : η.Sublist η1) (h : OpW y f a b ρ η Q) : OpW y f a b ρ η1 Q := fun fp H0 σ H S => h fp H0 σ H (S.sub (fun _ z => s.subset z) ((s.map _).nodup S.st.nd))
theorem ixN_last (n : Nat) : ixN (n + 1) (-1) = some n := by
  unfold ixN
  rw [if_neg (by omega), if_pos (by omega)]
  congr 1
  omega
theorem atI_last {α : Type} (xs : List α) (x : α) : atI (xs ++ [x]) (-1) = some x := by
  unfold atI
  rw [List.length_append, List.length_singleton, ixN_last]
  simp
theorem atI_pos {α : Type} {xs : List α} {i : Nat} {x : α} (h : xs[i]? = some x) : atI xs (i : Int) = some x := by
  have hi := (List.getElem?_eq_some_iff.mp h).1
  unfold atI ixN
  rw [if_pos (by omega), if_pos (by omega)]
  simpa using h
/-- the places of the store differ -/
theorem SVs.nd {y : Sy} {sts : List Stmt} {ρ : Rho} {η : Sto} {N : En} (h : (η.map (·.1)).Nodup → SVs y sts ρ η N) : SVs y sts ρ η N := fun fp H0 σ H S => h S.st.nd fp H0 σ H S
theorem SV.nd {y : Sy} {sts : Stmt} {ρ : Rho} {η : Sto} {N : En} (h : (η.map (·.1)).Nodup → SV y sts ρ η N) : SV y sts ρ η N := fun fp H0 σ H S => h S.st.nd fp H0 σ H S
theorem EV.nd {y : Sy} {e : Expr} {ρ : Rho} {η : Sto} {Q : D → Sto → Prop} (h : (η.map (·.1)).Nodup → EV y e ρ η Q) : EV y e ρ η Q := fun fp H0 σ H S => h S.st.nd fp H0 σ H S
theorem putM_skip {a b : Addr} {m n : Mo} {r : Sto} (h : b ≠ a) : putM a m ((b, n) :: r) = (b, n) :: putM a m r := by
  rw [putM, if_neg h]
theorem putM_here {a : Addr} {m n : Mo} {r : Sto} : putM a m ((a, n) :: r) = (a, m) :: r := by
  unfold putM
  rw [if_pos rfl]
theorem putM_2 {a b : Addr} {m n k : Mo} {r : Sto} (nd : ((((b, n) :: (a, k) :: r : Sto)).map (·.1)).Nodup) : putM a m ((b, n) :: (a, k) :: r) = (b, n) :: (a, m) :: r := by
  rw [List.map_cons, List.map_cons, List.nodup_cons] at nd
  rw [putM_skip (fun e => nd.1 (by rw [e]; exact List.mem_cons_self)), putM_here]
end Sx

/-! S13: tuples joined, whichever is empty; methods as rules. -/
namespace Sx
open PySem PySem.Spec PyProof.Rows L2
open LamX (Tabs TabS TabB ExtN)
section
variable {y : Sy} {ρ : Rho} {η : Sto} {Q : D → Sto → Prop}
theorem opw_catA {ds es : List D} (hz : ds.length + es.length ≤ sizeLine) (h : Q (.tup (ds ++ es)) η) : OpW y (binaryOp .Add) (.tup ds) (.tup es) ρ η Q := fun fp H0 σ H S w Qv o v v' av bv => by
  obtain ⟨a, xs, rfl, sa, as⟩ := at_tup.mp av
  obtain ⟨b, zs, rfl, sb, bs⟩ := at_tup.mp bv
  refine wO_of op_catA ⟨a, b, xs, zs, rfl, rfl, sa, sb, by rw [as.length, bs.length]; exact hz, fun e => ?_, fun _ e => ?_, fun _ _ p np => ?_⟩
  · have : ds = [] := by
      have := as.length
      rw [e] at this
      exact List.length_eq_zero_iff.mp this.symm
    subst this
    exact o _ η _ H h S Kp.refl bv
  · have : es = [] := by
      have := bs.length
      rw [e] at this
      exact List.length_eq_zero_iff.mp this.symm
    subst this
    exact o _ η _ H h S Kp.refl (by rw [List.append_nil]; exact av)
  · have g : Gr y.G H (upd H p (.tup (xs ++ zs))) := Gr.new np
    exact o _ η _ _ h (S.gr g) g.kp (at_tup.mpr ⟨p, _, rfl, SqT.of upd_same, (as.append bs).kp g.kp⟩)
end
theorem fnR_of {P : Program} {w : World} {K : PySem.W.Frag} {mg : Str → Option Value} {base : Heap} {CX : CXT} {k : Nat} {f : Addr} {fd : FuncData} {ps : List Str} {sp : Sp} (F : FnOk P w K mg base CX k f fd ps sp) (hb : Binds K fd ps []) : FnR P w K mg base CX k f sp :=
  FnR.imp (FnOk.raw F hb .nil) fun vs H Q E h => by
    rw [List.append_nil]
    exact h
/-- a def that may have defaults -/
structure FunV (K : PySem.W.Frag) (x qual : Str) (st : Stmt) (f : Addr) (fd : FuncData) : Prop where
  ex : ∃ (oc : Value) (od : Option Addr) (dV kV doc pm : Value) (an : Option Addr) (cdv ct : Value) (osl : Array (Option Value)),
    fd = PySem.W.fnOf x qual (defArgs st) (defBody st) (defScope st) dV kV doc pm an cdv ct ∧ K.lookup f = some ⟨oc, od, .func fd, osl⟩ ∧ PySem.W.codeIn K cdv qual = true
  kp : PySem.W.keepIn K (.ref f) = true
section
variable {P : Program} {w : World} {K : PySem.W.Frag} {mg : Str → Option Value} {base : Heap} {MC : Addr → Prop} {T : List (Addr × Str)}
theorem ok_ofV {α : Type} {x qual : Str} {st : Stmt} {f : Addr} {fd : FuncData} {N ps : List Str} {k : Nat} (S : FS α) (F : FunV K x qual st f fd) (sc : FnScope N ps (defScope st)) (hl : ∀ a, (S.args a).length = ps.length)
    (body : ∀ (a : α) (cdv : Value) (A : Around) (outer : List Env) (s : Shared) (H : Hp) (E : XK), Room k (A.deeper (envOfC qual (defScope st) s.heap.objs.size f cdv)) →
      SVs (yBody P w K mg base MC T N qual (defScope st) f cdv A outer s H E) (defBody st) (rho0 N (S.args a)) (S.st a) { nx := fun _ η => Lose (S.ret a .non) η, rt := fun d η => Lose (S.ret a d) η }) :
    FnOk P w K mg base CX0 (k + 1) f fd ps (spOf ⟨K, MC, T⟩ S) := by
  obtain ⟨oc, od, dV, kV, doc, pm, an, cdv, ct, osl, rfl, lk, hcd⟩ := F.ex
  refine fn_of lk hcd sc (fun vs H Q E h => ?_) fun A outer s H vs Q E hr h => ?_
  · obtain ⟨a, at_, _⟩ := h
    rw [at_.length, hl]
  · obtain ⟨a, at_, tb, h1, h2, hq, _⟩ := h
    refine ⟨_, (pss_w (X := (cxOf CX0 P w K mg base N qual (defScope st) f cdv A outer s H E).nox) (sts := defBody st)).nox, ?_⟩
    refine body a cdv A outer s H E hr ((S.st a).map fun (x : Addr × Mo) => x.1) H (L2.start N vs) H (Sl.start at_ tb h1 h2) (fun _ _ _ _ _ _ z _ => z.elim) _ ⟨fun ρ η σ H' n S' k' => ?_, fun d ρ η v σ H' n S' k' a' => ?_, fun _ _ _ _ z => z.elim, fun _ _ _ _ z => z.elim⟩
    · obtain ⟨η1, n1, n2⟩ := S'.st.lose n
      exact hq .non η1 .non H' n1 S'.fr S'.tb n2 (at_non.mpr rfl)
    · obtain ⟨η1, n1, n2⟩ := S'.st.lose n
      exact hq d η1 v H' n1 S'.fr S'.tb n2 a'
end
theorem FunV.binds {K : PySem.W.Frag} {x qual : Str} {st : Stmt} {f : Addr} {fd : FuncData} {ps : List Str} (F : FunV K x qual st f fd)
    (h : ∀ (dV kV doc pm : Value) (an : Option Addr) (cdv ct : Value) (us : List Value), us.length = ps.length → bindArgs (PySem.W.fnOf x qual (defArgs st) (defBody st) (defScope st) dV kV doc pm an cdv ct) ⟨us, []⟩ = pure (ps.zip us)) : Binds K fd ps [] := by
  obtain ⟨oc, od, dV, kV, doc, pm, an, cdv, ct, osl, rfl, lk, hcd⟩ := F.ex
  exact .all (h dV kV doc pm an cdv ct)
section
variable {y : Sy} {e tg iter k1 v1 k2 v2 k3 v3 : Expr} {ρ : Rho} {η : Sto} {Q : D → Sto → Prop} {pos : Pos}
theorem ev_disp3 (h : ∀ p, PV y [(k1, v1), (k2, v2), (k3, v3)] ρ ((p, .dic []) :: η) fun ps η1 => ∃ (kvs : List (Str × D)) (η2 : Sto), ps = kvs.map (fun p => (D.str p.1, p.2)) ∧ (kvs.map (·.1)).Nodup ∧ kvs.length ≤ 15 ∧ η1.Perm ((p, .dic []) :: η2) ∧ Q (.ref p) ((p, .dic (kvs.map fun p => (Sum.inr p.1, p.2))) :: η2)) :
    EV y (.Dict [some k1, some k2, some k3] [v1, v2, v3] pos) ρ η Q := ev_disp [(k1, v1), (k2, v2), (k3, v3)] h (by simp) (by simp)
theorem IV.mono {Q Q' : List D → (Sto → Prop) → Sto → Prop} (h : IV y tg iter ρ η Q) (q : ∀ i P η, Q i P η → Q' i P η) : IV y tg iter ρ η Q' := fun fp H0 σ H S w R r => h fp H0 σ H S w R fun items P η1 J H1 z => r items P η1 J H1 (q _ _ _ z)
/-- a dict's item by a text -/
theorem ev_dgetS {x : Str} {a : Expr} {j : Nat} {p1 : Pos} (hu : y.X.A.units + 1 < cLine) (h : EV y a ρ η fun d1 η1 => ∃ p kvs d, d1 = .ref p ∧ (p, .dic kvs) ∈ η1 ∧ valD kvs (Sum.inr x) = some d ∧ Q d η1) : EV y (.Subscript a (.Constant (.str x) j p1) pos) ρ η Q :=
  ev_dget hu (fun _ _ => rfl) (h.mono fun d1 η1 z => ev_str (let ⟨p, kvs, d, z1, z2, z3, z4⟩ := z; ⟨p, kvs, Sum.inr x, d, z1, z2, .str x, z3, z4⟩))
end
section
variable {y : Sy} {a b : Expr} {ρ : Rho} {η : Sto} {N : En} {px py pt pos : Pos} {kt k2 : Nat} {pt2 : Pos} {x z : Str}
/-- x, z = a, b with plain local names -/
theorem sv_par (i j : Nat) (hc : y.X.calm = true) (hN : y.X.N.Nodup) (hij : i ≠ j) (h : AV y [a, b] ρ η fun ds η1 => ∃ u v, ds = [u, v] ∧ N.nx ((ρ.set i (some u)).set j (some v)) η1)
    (hw : swappedStores [.Tuple [.Name x px, .Name z py] kt pt] (.Tuple [a, b] k2 pt2) y.X.env = pure (some [x, z]) := by rfl) (hi : y.X.N[i]? = some x := by rfl) (hj : y.X.N[j]? = some z := by rfl) (hx : y.X.env.scope.names.lookup x = some .local := by rfl) (hz : y.X.env.scope.names.lookup z = some .local := by rfl)
    (hs : swapsWithSole [.Tuple [.Name x px, .Name z py] kt pt] (.Tuple [a, b] k2 pt2) pos.line y.X.env = pure false := by rfl) : SV y (.Assign [.Tuple [.Name x px, .Name z py] kt pt] (.Tuple [a, b] k2 pt2) pos) ρ η N := fun fp H0 σ H S w D' o =>
  wS_of (ps_par hc hN hi hj hij hx hz pa_w hw hs) (h fp H0 σ H S w _ fun ds η1 vs H1 q S1 k1 a1 => by
    obtain ⟨u, v, rfl, n⟩ := q
    obtain ⟨x1, x2, rfl, z1, z2⟩ := two_of a1
    exact ⟨x1, x2, rfl, o.nx _ _ _ _ n ((S1.set z1).set z2) k1⟩)
end
end Sx

/-! S14: written data: numbers, texts, None and tuples of them, in one step. -/
namespace Sx
open PySem PySem.Spec PyProof.Rows L2
mutual
def litD : Expr → Option D
  | .Constant (.int i) _ _ => some (.int i)
  | .Constant (.str x) _ _ => some (.str x)
  | .Constant (.bool b) _ _ => some (.bl b)
  | .Constant .none _ _ => some .non
  | .UnaryOp .USub (.Constant (.int i) _ _) _ => some (.int (-i))
  | .Tuple es _ _ => (litDs es).bind fun ds => if ds.length ≤ 1000 then some (.tup ds) else none
  | _ => none
def litDs : List Expr → Option (List D)
  | [] => some []
  | e :: es => (litD e).bind fun d => (litDs es).map fun ds => d :: ds
end
theorem litD_noStar {e : Expr} {d : D} (h : litD e = some d) : noStar e = true := by
  cases e with
  | Starred v p => simp [litD] at h
  | _ => rfl
section
variable {y : Sy} {ρ : Rho} {η : Sto}
mutual
theorem lit_ev : ∀ (e : Expr) (d : D) (Q : D → Sto → Prop), litD e = some d → Q d η → EV y e ρ η Q
  | .Constant (.int i) _ _, d, Q, h, q => by simp only [litD, Option.some.injEq] at h; subst h; exact ev_int q
  | .Constant (.str i) _ _, d, Q, h, q => by simp only [litD, Option.some.injEq] at h; subst h; exact ev_str q
  | .Constant (.bool i) _ _, d, Q, h, q => by simp only [litD, Option.some.injEq] at h; subst h; exact ev_bl q
  | .Constant .none _ _, d, Q, h, q => by simp only [litD, Option.some.injEq] at h; subst h; exact ev_non q
  | .UnaryOp .USub (.Constant (.int i) _ _) _, d, Q, h, q => by simp only [litD, Option.some.injEq] at h; subst h; exact ev_un (ev_int (unw_neg q))
  | .Tuple es _ _, d, Q, h, q => by
    simp only [litD, Option.bind_eq_some_iff] at h
    obtain ⟨ds, h1, h2⟩ := h
    split at h2
    · rename_i hl
      cases h2
      exact ev_tup (lits_av es ds _ h1 ⟨by rw [sizeLine_eq]; omega, q⟩)
    · cases h2
theorem lits_av : ∀ (es : List Expr) (ds : List D) (Q : List D → Sto → Prop), litDs es = some ds → Q ds η → AV y es ρ η Q
  | [], ds, Q, h, q => by simp only [litDs, Option.some.injEq] at h; subst h; exact av_nil q
  | e :: es, ds, Q, h, q => by
    simp only [litDs, Option.bind_eq_some_iff, Option.map_eq_some_iff] at h
    obtain ⟨d, h1, ds', h2, rfl⟩ := h
    exact av_cons (lit_ev e d _ h1 (lits_av es ds' _ h2 q)) (star_cons (litD_noStar h1))
end
theorem ev_lit {e : Expr} {Q : D → Sto → Prop} (d : D) (q : Q d η) (h : litD e = some d := by rfl) : EV y e ρ η Q := lit_ev e d Q h q
theorem ev_litL {es : List Expr} {pos : Pos} {Q : D → Sto → Prop} (ds : List D) (q : ∀ p, Q (.ref p) ((p, .lst ds) :: η)) (hl : ds.length ≤ 1000 := by decide) (h : litDs es = some ds := by rfl) : EV y (.List es pos) ρ η Q :=
  ev_lst (lits_av es ds _ h ⟨by rw [sizeLine_eq]; omega, q⟩)
end
end Sx

/-! S15: match over texts; x in a sequence of texts; tests as continuations. -/
namespace Sx
open PySem PySem.Spec PyProof.Rows L2
open LamX (Tabs TabS TabB ExtN)
/-! ### match over a text -/
def orHits : List Pattern → Str → Option Bool
  | [], _ => some false
  | .MatchValue (.Constant (.str z) _ _) _ :: ps, x => if x = z then some true else orHits ps x
  | _ :: _, _ => none
def patHits : Pattern → Str → Option Bool
  | .MatchValue (.Constant (.str z) _ _) _, x => some (decide (x = z))
  | .MatchOr ps _, x => orHits ps x
  | .MatchAs none none _, _ => some true
  | _, _ => none
def pick : List MatchCase → Str → Option (Option (List Stmt))
  | [], _ => some none
  | ⟨p, none, body⟩ :: rest, x => (patHits p x).bind fun b => if b then some (some body) else pick rest x
  | _ :: _, _ => none
section
variable {X : Cx} {pins : List (Addr × Obj)} {σ : L2.St} {H : Hp} {x : Str}
theorem mp_value {p1 p2 : Pos} {j : Nat} {z : Str} {s : Shared} {u : Value} {Q : Option (List (Str × Value)) → Shared → Prop} (I : Inv X pins σ H s) (r : RelV (.str x) u)
    (h : ∀ s', Inv X pins σ H s' → Q (if x = z then some [] else none) s') : wpAny (model X.prog X.w) X.A (matchPattern (.MatchValue (.Constant (.str z) j p1) p2) X.env u) Q X.xe s := by
  refine wpAny_matchPattern_Value (thn (pe_str.run pins s σ H (fun v H' => v = .str z ∧ H' = H) I ⟨rfl, rfl⟩) fun u2 s1 ⟨v, H1, I1, r1, e1, e2⟩ => ?_)
  subst e1 e2
  refine thn (op_eq pins s1 σ _ (.str x) (.str z) u u2 (fun v H' => v = .bl (decide (x = z)) ∧ H' = H1) I1 r r1 ⟨rfl, by simp, rfl⟩) fun u3 s2 ⟨v3, H3, I3, r3, e3, e4⟩ => ?_
  subst e3 e4
  cases (show u3 = Value.bool (decide (x = z)) from r3)
  refine wpAny_truthy_bool ?_
  have := h s2 I3
  by_cases e : x = z
  · rw [if_pos e] at this
    rw [decide_eq_true e, if_pos rfl]
    exact this
  · rw [if_neg e] at this
    rw [decide_eq_false e, if_neg Bool.false_ne_true]
    exact this
theorem mp_or {u : Value} (r : RelV (.str x) u) {b : Bool} {Q : Option (List (Str × Value)) → Shared → Prop} (h : ∀ s', Inv X pins σ H s' → Q (if b then some [] else none) s') : ∀ (ps : List Pattern) (s : Shared), orHits ps x = some b → Inv X pins σ H s →
    wpAny (model X.prog X.w) X.A (matchFirst ps X.env u) Q X.xe s := by
  intro ps
  induction ps with
  | nil =>
    intro s e I
    cases e
    exact wpAny_matchFirst_nil (h s I)
  | cons p ps ih =>
    intro s e I
    unfold orHits at e
    split at e
    · cases ‹_ :: _ = []›
    · rename_i heq
      injection heq with h1 h2
      subst h1 h2
      refine wpAny_matchFirst_cons (mp_value I r fun s' I' => ?_)
      split at e
      · rename_i hx
        cases e
        rw [if_pos hx]
        exact h s' I'
      · rename_i hx
        rw [if_neg hx]
        exact ih s' e I'
    · cases e
theorem mp_any {u : Value} {p : Pattern} {s : Shared} {b : Bool} {Q : Option (List (Str × Value)) → Shared → Prop} (e : patHits p x = some b) (I : Inv X pins σ H s) (r : RelV (.str x) u)
    (h : ∀ s', Inv X pins σ H s' → Q (if b then some [] else none) s') : wpAny (model X.prog X.w) X.A (matchPattern p X.env u) Q X.xe s := by
  unfold patHits at e
  split at e
  · cases e
    refine mp_value I r fun s' I' => ?_
    have := h s' I'
    by_cases hx : x = ‹Str›
    all_goals simpa [hx] using this
  · refine wpAny_matchPattern_Or (mp_or r (fun s' I' => ?_) _ s e I)
    have := h s' I'
    cases b
    · exact this
    · rw [if_pos rfl] at this ⊢
      have e0 : ∀ ns : List Str, (ns.filterMap fun n => (([] : List (Str × Value)).lookup n).map (n, ·)) = [] := by
        intro ns
        induction ns with
        | nil => rfl
        | cons n ns ih => exact ih
      show Q (some _) s'
      rw [e0]
      exact this
  · cases e
    exact wpAny_matchPattern_Capture (h s I)
  · cases e
def tCases (X : Cx) (cs : List MatchCase) (x : Str) : TS := fun D σ H => ∃ o, pick cs x = some o ∧ match o with
  | some body => wSs X body D σ H
  | none => D.nx σ H
theorem mc_run {u : Value} : ∀ {cs : List MatchCase} {s : Shared} {first : Bool} {D : Ends}, Inv X pins σ H s → RelV (.str x) u → tCases X cs x D σ H →
    wpAny (model X.prog X.w) X.A (matchCases cs X.env u first) (SP X pins D) X.xe s
  | [], s, first, D, I, r, ⟨o, e, h⟩ => by
    cases e
    exact wpAny_matchCases_nil ⟨σ, H, I, h⟩
  | ⟨p, g, body⟩ :: rest, s, first, D, I, r, ⟨o, e, h⟩ => by
    cases g with
    | some g => cases e
    | none =>
      unfold pick at e
      rw [Option.bind_eq_some_iff] at e
      obtain ⟨b, e1, e2⟩ := e
      refine wpAny_matchCases_cons (mp_any e1 I r fun s' I' => ?_)
      cases b with
      | false => exact mc_run I' r ⟨o, e2, h⟩
      | true =>
        cases e2
        exact wpAny_assignInOrder_none (h.run pins s' I')
theorem ps_match {subj : Expr} {cs : List MatchCase} {pos : Pos} {te : TE} (he : PE X subj te) : PS X (.Match subj cs pos) (fun D σ H => te σ H fun v H1 => ∃ x, v = .str x ∧ tCases X cs x D σ H1) :=
  ⟨fun pins s σ H D I h => wpAny_Match (thn (he.run pins s σ H _ I h) fun u s1 ⟨v, H1, I1, r, x, e, q⟩ => by
    subst e
    exact mc_run I1 r q)⟩
end
section
variable {y : Sy} {e c a b : Expr} {st : Stmt} {sts body orelse : List Stmt} {ρ : Rho} {η : Sto} {N : En} {Q : D → Sto → Prop} {QB : Bool → Sto → Prop} {pos p1 p2 : Pos}
theorem sv_match {cs : List MatchCase} (h : EV y e ρ η fun d η1 => ∃ x o, d = .str x ∧ pick cs x = some o ∧ match o with | some body => SVs y body ρ η1 N | none => N.nx ρ η1) : SV y (.Match e cs pos) ρ η N := fun fp H0 σ H S w D' o =>
  wS_of (ps_match pe_w) (h fp H0 σ H S w _ fun d η1 v H1 q S1 k1 a1 => by
    obtain ⟨x, ob, rfl, hp, q⟩ := q
    refine ⟨x, at_str.mp a1, ob, hp, ?_⟩
    cases ob with
    | some body => exact q fp H0 σ H1 S1 w D' (o.later k1)
    | none => exact o.nx ρ η1 σ H1 q S1 k1)
/-! ### tests as continuations -/
theorem sv_ifC (ht : TV y c ρ η fun b η1 => (b = true → SVs y body ρ η1 N) ∧ (b = false → SVs y orelse ρ η1 N)) : SV y (.If c body orelse pos) ρ η N :=
  sv_if ht (fun _ h => h.1 rfl) (fun _ h => h.2 rfl)
theorem ev_ifC (ht : TV y c ρ η fun k η1 => (k = true → EV y a ρ η1 Q) ∧ (k = false → EV y b ρ η1 Q)) : EV y (.IfExp c a b pos) ρ η Q :=
  ev_ifExp ht (fun _ h => h.1 rfl) (fun _ h => h.2 rfl)
theorem tv_andC {es : List Expr} (h : TV y a ρ η fun k η1 => (k = true → WV y (.BoolOp .And (b :: es) pos) ρ η1 QB) ∧ (k = false → QB false η1)) : WV y (.BoolOp .And (a :: b :: es) pos) ρ η QB :=
  wv_and h (fun _ h => h.1 rfl) (fun _ h => h.2 rfl)
theorem tv_orC {es : List Expr} (h : TV y a ρ η fun k η1 => (k = false → WV y (.BoolOp .Or (b :: es) pos) ρ η1 QB) ∧ (k = true → QB true η1)) : WV y (.BoolOp .Or (a :: b :: es) pos) ρ η QB :=
  wv_or h (fun _ h => h.1 rfl) (fun _ h => h.2 rfl)
/-! ### x in (..), x in [..] -/
def sD : Option Str → D
  | none => .non
  | some x => .str x
def inS? (o : Option Str) (zs : List Str) : Bool := match o with
  | none => false
  | some x => decide (x ∈ zs)
def sV : Option Str → V
  | none => .non
  | some x => .str x
theorem at_sD {G : Gv} {H : Hp} {o : Option Str} {v : V} (h : D.At G H (sD o) v) : v = sV o := by
  cases o with
  | none => exact at_non.mp h
  | some x => exact at_str.mp h
theorem inV_str (o : Option Str) (zs : List Str) : inV (sV o) (zs.map V.str) = inS? o zs := by
  unfold inV inS?
  rw [List.any_map]
  cases o with
  | none =>
    show zs.any (fun z => eqV (.str z) .non) = false
    simp [eqV]
  | some x =>
    show zs.any (fun z => eqV (.str z) (.str x)) = decide (x ∈ zs)
    rw [Bool.eq_iff_iff]
    simp [eqV]
theorem flat_strs (zs : List Str) : (zs.map V.str).all flatV = true := by simp [flatV]
theorem flat_sV (o : Option Str) : flatV (sV o) = true := by cases o <;> rfl
theorem opw_inTS {o : Option Str} {zs : List Str} (h : Q (.bl (inS? o zs)) η) : OpW y (compareOp .In) (sD o) (.tup (zs.map D.str)) ρ η Q := fun fp H0 σ H S w Qv ou v v' av bv => by
  obtain ⟨a, xs, rfl, s, as⟩ := at_tup.mp bv
  rw [D.Ats.strs.mp as] at s
  rw [at_sD av]
  exact wO_of op_in_seq ⟨a, _, rfl, .inr s, flat_sV o, flat_strs zs, by rw [inV_str]; exact ou _ η _ H h S Kp.refl (at_bl.mpr rfl)⟩
theorem opw_ninTS {o : Option Str} {zs : List Str} (h : Q (.bl (!inS? o zs)) η) : OpW y (compareOp .NotIn) (sD o) (.tup (zs.map D.str)) ρ η Q := fun fp H0 σ H S w Qv ou v v' av bv => by
  obtain ⟨a, xs, rfl, s, as⟩ := at_tup.mp bv
  rw [D.Ats.strs.mp as] at s
  rw [at_sD av]
  exact wO_of op_notIn_seq ⟨a, _, rfl, .inr s, flat_sV o, flat_strs zs, by rw [inV_str]; exact ou _ η _ H h S Kp.refl (at_bl.mpr rfl)⟩
theorem opw_inLS {o : Option Str} {zs : List Str} {p : Addr} (hp : (p, .lst (zs.map D.str)) ∈ η) (h : Q (.bl (inS? o zs)) η) : OpW y (compareOp .In) (sD o) (.ref p) ρ η Q := fun fp H0 σ H S w Qv ou v v' av bv => by
  obtain ⟨_, e1, xs, rfl, as⟩ := S.st.at_ _ _ hp
  rw [D.Ats.strs.mp as] at e1
  rw [at_sD av, at_ref.mp bv]
  exact wO_of op_in_seq ⟨p, _, rfl, .inl (SqL.of e1), flat_sV o, flat_strs zs, by rw [inV_str]; exact ou _ η _ H h S Kp.refl (at_bl.mpr rfl)⟩
theorem opw_ninLS {o : Option Str} {zs : List Str} {p : Addr} (hp : (p, .lst (zs.map D.str)) ∈ η) (h : Q (.bl (!inS? o zs)) η) : OpW y (compareOp .NotIn) (sD o) (.ref p) ρ η Q := fun fp H0 σ H S w Qv ou v v' av bv => by
  obtain ⟨_, e1, xs, rfl, as⟩ := S.st.at_ _ _ hp
  rw [D.Ats.strs.mp as] at e1
  rw [at_sD av, at_ref.mp bv]
  exact wO_of op_notIn_seq ⟨p, _, rfl, .inl (SqL.of e1), flat_sV o, flat_strs zs, by rw [inV_str]; exact ou _ η _ H h S Kp.refl (at_bl.mpr rfl)⟩
end
end Sx

/-! S16: calls with keywords; a law's end by facts of the top, told by names. -/
namespace Sx
open PySem PySem.Spec PyProof.Rows L2
open LamX (Tabs TabS TabB ExtN)
/-! ### f(e, .., k = v, ..), the keywords in the parameters' order -/
def gK (m n : Nat) (us ws : List Value) : List Value := if us.length = m then us ++ ws else List.replicate (n + 1) .none
def gKV (m n : Nat) (vs zs : List V) : List V := if vs.length = m then vs ++ zs else List.replicate (n + 1) .non
theorem vals_app : ∀ {vs : List V} {us : List Value} {zs : List V} {ws : List Value}, Vals vs us → Vals zs ws → Vals (vs ++ zs) (us ++ ws)
  | _, _, _, _, .nil, h => h
  | _, _, _, _, .cons r h1, h => .cons r (vals_app h1 h)
theorem vals_non : ∀ n : Nat, Vals (List.replicate n V.non) (List.replicate n Value.none)
  | 0 => .nil
  | n + 1 => .cons rfl (vals_non n)
theorem kb_mk {K : PySem.W.Frag} {fd : FuncData} {ps ks : List Str} (m : Nat) (h : ∀ (s : Shared) (us ws : List Value), K.In s.heap → us.length = m → (us ++ ws).length = ps.length → BindsTo s fd ⟨us, ks.zip ws⟩ (ps.zip (us ++ ws))) : KBinds K fd ps ks (gK m ps.length) (gKV m ps.length) where
  to := fun s us ws X hl => by
    unfold gK at hl ⊢
    split at hl
    · rename_i e
      rw [if_pos e]
      exact h s us ws X e hl
    · rw [List.length_replicate] at hl
      omega
  rel := fun {vs us zs ws} r r2 => by
    unfold gK gKV
    rw [r.length]
    split
    · exact vals_app r r2
    · exact vals_non _
section
variable {y : Sy} {e : Expr} {es : List Expr} {ρ : Rho} {η : Sto} {Q : D → Sto → Prop} {pos p1 : Pos} {α : Type} {F : FS α} {k m : Nat} {f : Addr} {fd : FuncData} {ps ks : List Str} {x : Str}
theorem ev_fnKw {kws : List Keyword} (K : FnOk y.X.prog y.X.w y.X.K y.X.mg y.X.base CX0 k f fd ps (spOf y.G F)) (hr : Room k y.X.A) (hm : y.X.mg x = some (.ref f)) (hk : PySem.W.keepIn y.X.K (.ref f) = true) (hb : KBinds y.X.K fd ps ks (gK 0 ps.length) (gKV 0 ps.length))
    (h : KV y kws ρ η fun vs η1 => ∃ a ηr, AfterCall y F vs ρ η1 Q a ηr) (hg : Gl y.X x := by rfl) (hall : (backToKw pos (keywordEach kws y.X.env)).all (·.1.isSome) = true := by rfl) (hks : (backToKw pos (keywordEach kws y.X.env)).filterMap (·.1) = ks := by rfl)
    (hdb : (x == ("__debug__" : Str)) = false := by decide) (hpl : ((backTo pos (starEach [] y.X.env)).any (·.1) || (backToKw pos (keywordEach kws y.X.env)).any (·.1.isNone)) = false := by rfl) :
    EV y (.Call (.Name x p1) [] kws pos) ρ η Q := fun fp H0 σ H S w Qv o =>
  wE_of (pe_callK0 (E := fun cls d H => y.W cls d σ H) K hr hg hm hk hb pas0 pk_w hall hks hdb hpl) (h fp H0 σ H S w _ fun vs η1 xs H1 h1 S1 k1 a1 => by
    obtain ⟨a, ηr, c⟩ := h1
    exact c.sp (W := y.W) S1 w a1 (fun d η' v H' q S' k' a' => o d η' v H' q S' (k1.trans k') a') fun _ _ _ z => z)
theorem ev_fnKm {kws : List Keyword} (K : FnOk y.X.prog y.X.w y.X.K y.X.mg y.X.base CX0 k f fd ps (spOf y.G F)) (hr : Room k y.X.A) (hm : y.X.mg x = some (.ref f)) (hk : PySem.W.keepIn y.X.K (.ref f) = true) (hb : KBinds y.X.K fd ps ks (gK m ps.length) (gKV m ps.length))
    (h : AV y (e :: es) ρ η fun us η0 => us.length = m ∧ KV y kws ρ η0 fun vs η1 => ∃ a ηr, AfterCall y F (us ++ vs) ρ η1 Q a ηr) (hg : Gl y.X x := by rfl) (hall : (backToKw pos (keywordEach kws y.X.env)).all (·.1.isSome) = true := by rfl) (hks : (backToKw pos (keywordEach kws y.X.env)).filterMap (·.1) = ks := by rfl)
    (hdb : (x == ("__debug__" : Str)) = false := by decide) (he : starEach (e :: es) y.X.env = (false, eval e y.X.env) :: starEach es y.X.env := by exact star_cons (by rfl)) (hpl : ((backTo pos (starEach (e :: es) y.X.env)).any (·.1) || (backToKw pos (keywordEach kws y.X.env)).any (·.1.isNone)) = false := by rfl) :
    EV y (.Call (.Name x p1) (e :: es) kws pos) ρ η Q := fun fp H0 σ H S w Qv o =>
  wE_of (pe_callK (E := fun cls d H => y.W cls d σ H) K hr hg hm hk hb pas0 pa_w pk_w hall hks hdb he hpl) (h fp H0 σ H S w _ fun us η1 zs H1 h1 S1 k1 a1 => by
    obtain ⟨hl, h2⟩ := h1
    refine h2 fp H0 σ H1 S1 w _ fun vs η2 xs H2 h3 S2 k2 a2 => ?_
    obtain ⟨a, ηr, c⟩ := h3
    show spOf y.G F (gKV m ps.length zs xs) H2 Qv _
    rw [show gKV m ps.length zs xs = zs ++ xs from if_pos (a1.length.trans hl)]
    exact c.sp (W := y.W) S2 w ((a1.kp k2).append a2) (fun d η' v H' q S' k' a' => o d η' v H' q S' (k1.trans (k2.trans k')) a') fun _ _ _ z => z)
end
/-- a def that is called with m places and keywords -/
structure CalK (P : Program) (w : World) (K : PySem.W.Frag) (mg : Str → Option Value) (base : Heap) (k : Nat) (x : Str) (m : Nat) (ps ks : List Str) (sp : Sp) : Prop where
  ex : ∃ (f : Addr) (fd : FuncData), FnOk P w K mg base CX0 k f fd ps sp ∧ mg x = some (.ref f) ∧ PySem.W.keepIn K (.ref f) = true ∧ KBinds K fd ps ks (gK m ps.length) (gKV m ps.length)
section
variable {y : Sy} {e : Expr} {ρ : Rho} {η : Sto} {Q : D → Sto → Prop} {pos p1 p2 : Pos} {α : Type} {F : FS α} {k : Nat} {ps : List Str} {x nm : Str}
/-- one keyword, nothing of the store -/
theorem ev_calK0 (C : CalK y.X.prog y.X.w y.X.K y.X.mg y.X.base k x 0 ps [nm] (spOf y.G F)) (hr : Room k y.X.A)
    (h : EV y e ρ η fun v η1 => ∃ a, [v] = F.args a ∧ F.st a = [] ∧ (∀ d η', F.ret a d η' → Q d (η' ++ η1)) ∧ ∀ cls d H η', ¬ F.exc a cls d H η') (hg : Gl y.X x := by rfl)
    (hdb : (x == ("__debug__" : Str)) = false := by decide) : EV y (.Call (.Name x p1) [] [⟨some nm, e, p2⟩] pos) ρ η Q := by
  obtain ⟨f, fd, K, hm, hk, hb⟩ := C.ex
  exact ev_fnKw K hr hm hk hb (kv_cons (h.mono fun v η1 z => kv_nil (let ⟨a, q1, q2, q3, q4⟩ := z; ⟨a, η1, q1, by rw [q2]; exact List.Perm.refl _, q3, fun _ _ _ _ z => (q4 _ _ _ _ z).elim⟩))) hg rfl rfl hdb rfl
end
/-! ### facts of the top -/
/-- a def's datum: the function at a place, its text -/
def dat (f : PySem.W.Frag → Addr) (x qual : Str) (st : Stmt) (dfl : List He.Dv := []) : He5.DefA := ⟨f, x, qual, defArgs st, defBody st, defScope st, dfl, []⟩
/-- where they stand: a name of the module, a method, a classmethod's def -/
abbrev atG (x : Str) : PySem.W.Frag → Addr := fun K => He.ga K x
abbrev atM (C m : Str) : PySem.W.Frag → Addr := fun K => He.ma K (He.ga K C) m
abbrev atC (C m : Str) : PySem.W.Frag → Addr := fun K => He5.wf K (He.ga K C) "classmethod" m
/-- all that may be asked of a class, as one truth value -/
def clsAll (K : PySem.W.Frag) (C : Addr) : Bool :=
  (PySem.W.plainGet K C Str.empty && PySem.W.hasDictIn K C && PySem.W.plainOver K C && He.eqO (PySem.W.findIn K (.ref C) "__setattr__") (some (some (.builtin "object.__setattr__")))) &&
  (He.eqO (PySem.W.findIn K (.ref C) "__class__") (some (some (.builtin "object.__class__"))) && He.eqO (PySem.W.specialIn K (.builtin "object.__class__") "__get__") (some (some (.builtin "getset_descriptor.__get__"))) &&
   decide (PySem.W.takesIn K (.builtin "object.__class__") = some true) && decide (PySem.W.mroIn K C (.type "object") = some true)) &&
  (PySem.W.readsIn K C (.type "type") && He.eqO (PySem.W.specialIn K (.ref C) "__getattribute__") (some (some (.builtin "type.__getattribute__")))) &&
  decide (PySem.W.kitOne K (.ref C) (.ref C) = some true)
structure ClsAll (K : PySem.W.Frag) (C : Addr) : Prop where
  cl : Cls K C
  oc : OfCls K C
  cr : ClX.CRead K C (.type "type")
  ki : PySem.W.kitOne K (.ref C) (.ref C) = some true
theorem clsAll_ok {K : PySem.W.Frag} {C : Addr} (h : clsAll K C = true) : ClsAll K C := by
  unfold clsAll at h
  simp only [Bool.and_eq_true, decide_eq_true_eq] at h
  obtain ⟨⟨⟨⟨⟨⟨a1, a2⟩, a3⟩, a4⟩, ⟨⟨b1, b2⟩, b3⟩, b4⟩, c1, c2⟩, d1⟩ := h
  have cl : Cls K C := ⟨a1, a2, a3, He.eqO_ok a4⟩
  exact ⟨cl, ⟨cl, He.eqO_ok b1, He.eqO_ok b2, b3, b4⟩, ⟨c1, He.eqO_ok c2⟩, d1⟩
/-- a classmethod -/
def cmB (K : PySem.W.Frag) (C : Addr) (m : Str) : Bool := He5.wrapB K C "classmethod" "classmethod.__get__" m && PySem.W.fnIn K (He5.wf K C "classmethod" m)
theorem cmB_ok {K : PySem.W.Frag} {C : Addr} {m : Str} (h : cmB K C m = true) : ClX.CMet K C (.type "type") m (He.ma K C m) (He5.wf K C "classmethod" m) := by
  unfold cmB at h
  obtain ⟨h1, h2⟩ := Bool.and_eq_true_iff.mp h
  exact He5.cmet_of h1 h2
/-- an operator of a class: the method m -/
def ownB (K : PySem.W.Frag) (C : Addr) (m : Str) : Bool := He.eqO (PySem.W.findIn K (.ref C) m) (some (some (.ref (He.ma K C m)))) && PySem.W.isFn K (.ref (He.ma K C m))
theorem ownB_ok {K : PySem.W.Frag} {C : Addr} {m : Str} (h : ownB K C m = true) : PySem.W.findIn K (.ref C) m = some (some (.ref (He.ma K C m))) ∧ PySem.W.isFn K (.ref (He.ma K C m)) = true := by
  obtain ⟨h1, h2⟩ := Bool.and_eq_true_iff.mp h
  exact ⟨He.eqO_ok h1, h2⟩
/-! ### the Hook -/
structure Told (fa : List He.Fa) (fn : List He5.DefA) (tf : List He.Defn) (ex : PySem.W.Frag → Bool) (h : Heap) (K : PySem.W.Frag) : Prop where
  fa : ∀ f ∈ fa, f.ok K = true
  fn : ∀ d ∈ fn, ∃ fd, FunD K d.name d.qual d.params d.body d.scope (d.dvs K) (d.kws K) (d.at_ K) fd
  ex : ex K = true
  hd : ∀ p ∈ tf, PySem.W.codeHdIn K (He.cT K p).1 (He.cT K p).2 = true
  out : ∀ p ∈ tf, K.lookup (He.cT K p).2 = none
  emp : ∀ p ∈ tf, h.get? (He.cT K p).2 = some tabO
def toldK (fa : List He.Fa) (fn : List He5.DefA) (tf : List He.Defn) (ex : PySem.W.Frag → Bool) (g : Addr → Option Obj) (K : PySem.W.Frag) : Bool × List He.FnW :=
  (((fa.all fun f => f.ok K) && fn.all fun d => d.ok K) && (ex K && He.tabsB g tf K), fn.map fun d => He5.fnA K (d.at_ K))
def told (n : Nat) (fa : List He.Fa) (fn : List He5.DefA) (tf : List He.Defn) (ex : PySem.W.Frag → Bool) (g : Addr → Option Obj) : Bool × List He.FnW := toldK fa fn tf ex g (He.frT g (He5.asA g n))
def toldV (fn : List He5.DefA) : Bool × List He.FnW := (true, fn.map He5.DefA.val)
theorem told_ok {n : Nat} {fa : List He.Fa} {fn : List He5.DefA} {tf : List He.Defn} {ex : PySem.W.Frag → Bool} {h : Heap} (e : told n fa fn tf ex h.get? = toldV fn) : Told fa fn tf ex h (He.frT h.get? (He5.asA h.get? n)) := by
  unfold told at e
  generalize eK : He.frT h.get? (He5.asA h.get? n) = K at e
  obtain ⟨e1, e2⟩ := Prod.mk.inj e
  simp only [Bool.and_eq_true] at e1
  obtain ⟨⟨h1, h2⟩, h3, h4⟩ := e1
  have key : ∀ p ∈ tf, PySem.W.codeHdIn K (He.cT K p).1 (He.cT K p).2 = true ∧ ∃ o, h.get? (He.cT K p).2 = some o ∧ He.emptyTab o = true := fun p hp => by
    obtain ⟨h5, h6⟩ := Bool.and_eq_true_iff.mp (List.all_eq_true.mp h4 p hp)
    refine ⟨h5, ?_⟩
    cases q : h.get? (He.cT K p).2 with
    | none => rw [q] at h6; cases h6
    | some o => rw [q] at h6; exact ⟨o, rfl, h6⟩
  refine ⟨fun f hf => List.all_eq_true.mp h1 f hf, fun d hd => ?_, h3, fun p hp => (key p hp).1, fun p hp => ?_, fun p hp => ?_⟩
  · obtain ⟨i, hi, ei⟩ := List.mem_iff_getElem.mp hd
    have e3 := congrArg (fun l => l[i]?) e2
    simp only [List.getElem?_map, List.getElem?_eq_getElem hi, Option.map_some, ei, Option.some.injEq] at e3
    exact He5.DefA.funD e3 (List.all_eq_true.mp h2 d hd)
  · obtain ⟨_, o, q, z⟩ := key p hp
    rw [← eK] at q ⊢
    exact He.frT_none q z
  · obtain ⟨_, o, q, z⟩ := key p hp
    rw [q, He.emptyTab_eq z]
def hookS (n : Nat) (fa : List He.Fa) (fn : List He5.DefA) (tf : List He.Defn) (ex : PySem.W.Frag → Bool) : PySem.W.Hook where
  α := Bool × List He.FnW
  obs := fun s => told n fa fn tf ex s.heap.get?
  val := fun _ => toldV fn
  says := fun _ h => ∃ K : PySem.W.Frag, K.In h ∧ Told fa fn tf ex h K
  of := fun _ _ e => ⟨_, He.frT_in, told_ok e⟩
  keeps := fun _ _ _ ⟨K, hK, c⟩ k => ⟨K, PySem.W.Frag.In.keeps hK k, c.fa, c.fn, c.ex, c.hd, c.out, fun p hp => k _ _ (c.emp p hp)⟩
theorem told_eq {n : Nat} {fa : List He.Fa} {fn : List He5.DefA} {tf : List He.Defn} {ex : PySem.W.Frag → Bool} {g : Addr → Option Obj} {s : Shared} (h : ∀ a, g a = s.heap.get? a) : told n fa fn tf ex g = (hookS n fa fn tf ex).obs s := by
  rw [show g = s.heap.get? from funext h]
  rfl
/-! ### a law's end -/
theorem walk_S {l : PySem.W.OpenLaw} {n k : Nat} {q : Program} {loose : List Str} {XP : (Str → Option Value) → Heap → Prop} {YP : World → Heap → Prop} {d : DefRec}
    (hn : l.most = some n) (hn2 : n ≤ sizeLine) (hdf : d.params.defaults = []) (hr : Room k callerA)
    (F : ∀ (w : World) (mg : Str → Option Value) (fa : Addr) (h : Heap), YP w h → h.Ns mainGlobals mg → mg d.name = some (.ref fa) → ∃ K : PySem.W.Frag, K.In h ∧ LawAtG l w K k n mg fa h) :
    PySem.W.WalkO q loose XP YP l.row.toRowW d [] (fun f vs => PySem.call f vs) := by
  refine Att.attach_callB hn hdf fun w s₀ s₁ mg mb fa o pm cd doc a vs ns G Y ho hd hcd hmg hobj hints hlen hbits hg => ?_
  obtain ⟨K, KX, cs, sp, hT, nT, C, hsp, hF⟩ := F w mg fa _ Y G.T.g hmg
  exact law_callG KX G.T.g G.T.b G.T.builtins G.T.nolimit hg hT nT C G.T.bmain hobj hints (Nat.le_trans hlen hn2) hr hF (fun H hH hS => hsp H a ns hlen hbits hH hS)
end Sx

/-! S17: assignments whose side conditions are asked by truth values. -/
namespace Sx
open PySem PySem.Spec PyProof.Rows L2
open LamX (Tabs TabS TabB ExtN)
def notComp : Expr → Bool
  | .ListComp .. => false
  | .SetComp .. => false
  | .DictComp .. => false
  | _ => true
theorem swaps_no {e : Expr} {t : Option Expr} {l : Nat} {env : Env} (h : notComp e = true) : swapsWith e t l env = pure false := by
  cases e <;> first | rfl | cases h
section
variable {y : Sy} {e : Expr} {ρ : Rho} {η : Sto} {N : En} {pos p1 : Pos}
theorem sv_as {x : Str} (k : Nat) (h : EV y e ρ η fun d η1 => N.nx (ρ.set k (some d)) η1) (hN : y.X.N.Nodup) (hi : y.X.N[k]? = some x := by rfl) (hx : Loc y.X.env.scope x := by first | exact Or.inl rfl | exact Or.inr rfl) (hs : notComp e = true := by rfl)
    (hf : y.X.fn x = true ∨ y.X.env.scope.names.lookup x = some .local := by first | exact .inl rfl | exact .inr rfl | assumption) : SV y (.Assign [.Name x p1] e pos) ρ η N := sv_asg k h hN hi hx (swaps_no hs) hf
theorem sv_ex (h : EV y e ρ η fun _ η1 => N.nx ρ η1) (hs : notComp e = true := by rfl) : SV y (.Expr e pos) ρ η N := sv_expr h (swaps_no hs)
end
end Sx

/-! S18: facts of the top by places; a law's promise at its end. -/
namespace Sx
open PySem PySem.Spec PyProof.Rows L2
open LamX (Tabs TabS TabB ExtN)
section
variable {fa : List He.Fa} {fn : List He5.DefA} {tf : List He.Defn} {ex : PySem.W.Frag → Bool} {h : Heap} {K : PySem.W.Frag}
theorem Told.fact (c : Told fa fn tf ex h K) (i : Nat) {f : He.Fa} (e : fa[i]? = some f := by rfl) : f.ok K = true := c.fa f (List.mem_of_getElem? e)
theorem Told.def_ (c : Told fa fn tf ex h K) (i : Nat) {d : He5.DefA} (e : fn[i]? = some d := by rfl) : ∃ fd, FunD K d.name d.qual d.params d.body d.scope (d.dvs K) (d.kws K) (d.at_ K) fd := c.fn d (List.mem_of_getElem? e)
end
section
variable {K : PySem.W.Frag} {x qual : Str} {st : Stmt} {f : Addr} {fd : FuncData} {dvs : List V} {kws : List (Str × V)}
theorem funV_of (F : FunD K x qual (defArgs st) (defBody st) (defScope st) dvs kws f fd) : FunV K x qual st f fd := by
  obtain ⟨oc, od, dV, kV, doc, pm, an, cdv, ct, osl, e, lk, hc, _, _⟩ := F.ex
  exact ⟨⟨oc, od, dV, kV, doc, pm, an, cdv, ct, osl, e, lk, hc⟩, F.kp⟩
theorem funC_of {p : He.Defn} (F : FunD K x qual (defArgs st) (defBody st) (defScope st) [] kws (He.fAd K p) fd) : FunC K x qual st (He.fAd K p) (He.codeOf K p) fd := by
  obtain ⟨oc, od, dV, kV, doc, pm, an, cdv, ct, osl, e, lk, hc, hd, _⟩ := F.ex
  rcases hd with ⟨_, rfl⟩ | ⟨z, _⟩
  · obtain ⟨c, rfl⟩ := He.codeIn_ref hc
    have ec : He.codeOf K p = c := He.codeOf_eq lk (by rw [e])
    rw [ec]
    exact ⟨⟨oc, od, kV, doc, pm, an, ct, osl, e, lk, hc⟩, F.kp⟩
  · exact absurd rfl z
end
section
variable {P : Program} {w : World} {K : PySem.W.Frag} {mg : Str → Option Value} {base : Heap} {x : Str} {ps ks : List Str} {sp : Sp} {f : Addr} {fd : FuncData} {k : Nat}
theorem cal_mk (F : FnOk P w K mg base CX0 k f fd ps sp) (m : mg x = some (.ref f)) (kp : PySem.W.keepIn K (.ref f) = true) (b : Binds K fd ps []) : Cal P w K mg base k x ps sp := ⟨⟨f, fd, F, m, kp, b⟩⟩
theorem calK_mk {m : Nat} (F : FnOk P w K mg base CX0 k f fd ps sp) (g : mg x = some (.ref f)) (kp : PySem.W.keepIn K (.ref f) = true) (b : KBinds K fd ps ks (gK m ps.length) (gKV m ps.length)) : CalK P w K mg base k x m ps ks sp := ⟨⟨f, fd, F, g, kp, b⟩⟩
/-- f(nm = v) of a def with one parameter -/
theorem kb_one {nm qual : Str} {st : Stmt} (F : Fun K x qual st f fd) (h1 : ∀ (kV doc pm : Value) (an : Option Addr) (cdv ct : Value) (u : Value), bindArgs (PySem.W.fnOf x qual (defArgs st) (defBody st) (defScope st) .none kV doc pm an cdv ct) ⟨[], [(nm, u)]⟩ = pure [(nm, u)]) : KBinds K fd [nm] [nm] (gK 0 1) (gKV 0 1) := by
  refine kb_mk (ps := [nm]) 0 fun s us ws X e0 hl => ?_
  obtain ⟨oc, od, kV, doc, pm, an, cdv, ct, osl, rfl, lk, hc⟩ := F.ex
  match us, ws, e0, hl with
  | [], [u], _, _ => exact .of_eq (h1 kV doc pm an cdv ct u)
end
/-- a law's promise: True -/
def F_true : FS {ns : List Int // ns.length ≤ 63} := { args := fun ns => [.ro (ns.1.map D.int)], st := fun _ => [], ret := fun _ d η => d = .bl true ∧ η = [] }
theorem sp_true {K : PySem.W.Frag} {MC : Addr → Prop} {T : List (Addr × Str)} {H : Hp} {a : Addr} {ns : List Int} (hl : ns.length ≤ 63) (hT : ∀ p ∈ T, H p.1 = some (.tbl #[])) (hS : SqF K H a (ns.map V.int)) : spOf ⟨K, MC, T⟩ F_true [.ref a] H (fun v _ => v = .bl true) fun _ _ _ => False :=
  ⟨⟨ns, hl⟩, D.Ats.one (at_ro.mpr ⟨a, _, rfl, hS, D.Ats.ints.mpr rfl⟩), fun p hp => TabS.nil (hT p hp), fun _ _ z => absurd z List.not_mem_nil, List.nodup_nil, fun d η' v H' e _ _ _ at_ => by
    obtain ⟨rfl, _⟩ := e
    exact at_bl.mp at_, fun _ _ _ _ z => z.elim⟩
end Sx

/-! S19: sorted(set(texts)). -/
namespace Sx
open PySem PySem.Spec PyProof.Rows L2
/-- two entries have no key in common -/
def Apart {P : Program} {w : World} {κ : Type} [DecidableEq κ] (kd : KeyKind P w κ) (e f : Int × Value) : Prop := ∀ k, kd.is k e.2 = true → kd.is k f.2 = false
/-- a set at p that can be walked: its members S, n of them -/
structure SetG {P : Program} {w : World} {κ : Type} [DecidableEq κ] (kd : KeyKind P w κ) (hp : Heap) (p : Addr) (S : κ → Bool) (n : Nat) : Prop where
  ex : ∃ ob es ep tb, hp.get? p = some ob ∧ ob.ExactSet ∧ ob.data = .set es ep tb ∧ ElemsOf kd es.toList ∧ es.toList.Pairwise (Apart kd) ∧ (∀ k, S k = true ↔ ∃ e ∈ es.toList, kd.is k e.2 = true) ∧ es.size < scanBound ∧
    tb.fits es.size = true ∧ es.size = n ∧ Ris tb.place.toList ∧ (w.params.followText "set-order" = true ∨ tb.led = true)
section
variable {P : Program} {w : World} {κ : Type} [DecidableEq κ] {kd : KeyKind P w κ} {A : Around} {E : Value → Shared → Prop} {s : Shared} {p : Addr} {S : κ → Bool} {n : Nat}
theorem Apart.symm {e f : Int × Value} (h : Apart kd e f) : Apart kd f e := fun k hk => by
  cases q : kd.is k e.2 with
  | false => rfl
  | true => rw [h k q] at hk; cases hk
theorem SetG.congr {hp : Heap} {S' : κ → Bool} {n' : Nat} (R : SetG kd hp p S n) (e : ∀ k, S' k = S k) (en : n' = n) : SetG kd hp p S' n' := by
  rw [show S' = S from funext e, en]
  exact R
theorem SetG.at_ {hp hp' : Heap} (R : SetG kd hp p S n) (k : ∀ o, hp.get? p = some o → hp'.get? p = some o) : SetG kd hp' p S n := by
  obtain ⟨ob, es, ep, tb, h1, r⟩ := R.ex
  exact ⟨ob, es, ep, tb, k ob h1, r⟩
theorem setG_tail {tell : Bool → Sem Unit} (ht : ∀ (b : Bool) (z : Shared) (Q' : Unit → Shared → Prop), Q' () z → wpAny (model P w) A (tell b) Q' E z)
    {ob : Obj} {es : Array (Int × Value)} {ep : Nat} {tb : SetTable} (h1 : s.heap.get? p = some ob) (h2 : ob.ExactSet) (h3 : ob.data = .set es ep tb)
    {fs : Array (Int × Value)} {tb' : SetTable} {S' : κ → Bool} (h4 : ElemsOf kd fs.toList) (h5 : fs.toList.Pairwise (Apart kd)) (h6 : ∀ k, S' k = true ↔ ∃ e ∈ fs.toList, kd.is k e.2 = true)
    (h7 : fs.size < scanBound) (h8 : tb'.fits fs.size = true) (h9 : Ris tb'.place.toList) (h10 : w.params.followText "set-order" = true ∨ tb'.led = true) {dm : Bool} {R : Option Bool → Shared → Prop}
    (hR : ∀ hp', Heap.SameBut p s.heap hp' → SetG kd hp' p S' fs.size → R (some true) { s with heap := hp' }) :
    wpAny (model P w) A (do
        storeSet p fs tb'
        if (!dm && tb'.tooFull) = true then do
            tell (relayAll tb' fs (SetTable.grown fs.size)).2.2
            storeSet p (relayAll tb' fs (SetTable.grown fs.size)).1 (relayAll tb' fs (SetTable.grown fs.size)).2.1
            pure (some true)
          else pure (some true)) R E s := by
  refine wpAny_bind (wpAny_storeSet_of h1 h3 ?_ (fits_of_scanBound h7))
  have g1 := store_at (es' := fs) (t' := tb') h1 h3
  have g2 := Heap.SameBut.update s.heap p (Obj.putSet fs tb')
  split
  · have q1 := relayAll_perm tb' fs (SetTable.grown fs.size)
    have q2 := relayAll_fits tb' fs (SetTable.grown fs.size)
    have q3 := relayAll_ris tb' fs (SetTable.grown fs.size)
    have q4 := relayAll_led tb' fs (SetTable.grown fs.size)
    generalize relayAll tb' fs (SetTable.grown fs.size) = Y at q1 q2 q3 q4 ⊢
    obtain ⟨gs, tb'', gv⟩ := Y
    dsimp only at q1 q2 q3 q4 ⊢
    have sz : gs.size = fs.size := by
      have := q1.length_eq
      rwa [Array.length_toList, Array.length_toList] at this
    refine wpAny_bind (ht _ _ _ (wpAny_bind (wpAny_storeSet_of g1 rfl (wpAny_pure (hR _ (g2.trans (Heap.SameBut.update _ p _)) ⟨_, gs, _, tb'', store_at (es' := gs) (t' := tb'') g1 rfl, h2, rfl, fun e he => h4 e (q1.mem_iff.mp he), (q1.pairwise_iff Apart.symm).mpr h5, fun k => (h6 k).trans ?_, ?_, q2, sz, q3, h10.imp id fun z => q4.trans z⟩)) (fits_of_scanBound (by rw [sz]; exact h7)))))
    · exact ⟨fun ⟨e, he, q⟩ => ⟨e, q1.mem_iff.mpr he, q⟩, fun ⟨e, he, q⟩ => ⟨e, q1.mem_iff.mp he, q⟩⟩
    · rw [sz]; exact h7
  · exact wpAny_pure (hR _ g2 ⟨_, fs, _, tb', g1, h2, rfl, h4, h5, h6, h7, h8, rfl, h9, h10⟩)
theorem setG_add {k : κ} {v : Value} {Q : Bool → Shared → Prop} (hv : kd.is k v = true) (hs : v.scannable = true) (R : SetG kd s.heap p S n) (room : n + 1 < scanBound)
    (hQ : ∀ hp', Heap.SameBut p s.heap hp' → SetG kd hp' p (fun j => S j || decide (j = k)) (if S k = true then n else n + 1) → Q (!S k) { s with heap := hp' }) :
    wpAny (model P w) A (setAddHashed p v (kd.hash k)) Q E s := by
  obtain ⟨ob, es, ep, tb, h1, h2, h3, h4, h5, h6, h7, h8, h9, h10, h11⟩ := R.ex
  unfold setAddHashed setAddHashedIn
  refine wpAny_holding (wpAny_bind (wpAny_setState_of h1 h3 h8 ?_))
  dsimp only
  rw [byScan_of hs h7 h4]
  simp only [↓reduceIte]
  unfold setAddByScan
  refine wpAny_bind (wpAny_bind (wpAny_rule (wpAny_bind (wpAny_setScan_of hv h1 h3 h8 h4 ?_))))
  cases at? : List.findIdx? (fun e => kd.is k e.2) es.toList with
  | some j =>
    dsimp only
    obtain ⟨lj, pj, _⟩ := List.findIdx?_eq_some_iff_getElem.mp at?
    have yes : S k = true := (h6 k).mpr ⟨es.toList[j], List.getElem_mem lj, pj⟩
    have q := hQ s.heap (Heap.SameBut.refl p s.heap) ⟨ob, es, ep, tb, h1, h2, h3, h4, h5, fun i => by
      rw [Bool.or_eq_true, decide_eq_true_eq, ← h6 i]
      exact ⟨fun z => z.elim id fun e => e ▸ yes, .inl⟩, h7, h8, by rw [if_pos yes]; exact h9, h10, h11⟩
    rw [yes] at q
    exact wpAny_pure (wpAny_pure q)
  | none =>
    dsimp only
    have out : ∀ e ∈ es.toList, kd.is k e.2 = false := fun e he => by
      have := List.findIdx?_eq_none_iff.mp at? e he
      simpa using this
    have no : S k = false := by
      cases q : S k with
      | false => rfl
      | true =>
        obtain ⟨e, he, z⟩ := (h6 k).mp q
        rw [out e he] at z
        cases z
    have say : ∀ (b : Bool) {z : Shared} {Q' : Unit → Shared → Prop}, Q' () z → wpAny (model P w) A (match b with | true => rule "set.scan.the-table-gave-way" | false => pure ()) Q' E z := fun b z Q' q => by
      cases b
      · exact wpAny_pure q
      · exact wpAny_rule q
    have q1 := layNew_perm tb es (kd.hash k) v
    have q2 := layNew_fits tb es (kd.hash k) v
    have q3 := layNew_ris tb es (kd.hash k) v h10
    have q4 := layNew_led tb es (kd.hash k) v
    generalize layNew tb es (kd.hash k) v = Y at q1 q2 q3 q4 ⊢
    obtain ⟨fs, tb1, dm, gv⟩ := Y
    dsimp only at q1 q2 q3 q4 ⊢
    rw [Array.toList_push] at q1
    have pc : fs.toList.Perm ((kd.hash k, v) :: es.toList) := q1.trans (List.perm_append_singleton _ _)
    have i4 : ElemsOf kd fs.toList := fun e he => by
      rcases List.mem_cons.mp (pc.mem_iff.mp he) with z | z
      · rw [z]; exact ⟨⟨k, hv, rfl⟩, hs⟩
      · exact h4 e z
    have i5 : fs.toList.Pairwise (Apart kd) := (pc.pairwise_iff Apart.symm).mpr (List.pairwise_cons.mpr ⟨fun e he j hj => by
      rw [kd.inj v j k hj hv]
      exact out e he, h5⟩)
    have i6 : ∀ j, (S j || decide (j = k)) = true ↔ ∃ e ∈ fs.toList, kd.is j e.2 = true := fun j => by
      rw [Bool.or_eq_true, decide_eq_true_eq, h6 j]
      constructor
      · rintro (⟨e, he, q⟩ | rfl)
        · exact ⟨e, pc.mem_iff.mpr (List.mem_cons_of_mem _ he), q⟩
        · exact ⟨_, pc.mem_iff.mpr List.mem_cons_self, hv⟩
      · rintro ⟨e, he, q⟩
        rcases List.mem_cons.mp (pc.mem_iff.mp he) with z | z
        · rw [z] at q
          exact .inr (kd.inj v j k q hv)
        · exact .inl ⟨e, z, q⟩
    have sz : fs.size = n + 1 := by
      have := pc.length_eq
      rw [Array.length_toList, List.length_cons, Array.length_toList, h9] at this
      exact this
    have i7 : fs.size < scanBound := by rw [sz]; exact room
    have i11 : w.params.followText "set-order" = true ∨ tb1.led = true := h11.imp id fun z => q4.trans z
    have fin : ∀ hp', Heap.SameBut p s.heap hp' → SetG kd hp' p (fun j => S j || decide (j = k)) fs.size → Q true { s with heap := hp' } := fun hp' sb r => by
      have q := hQ hp' sb
      rw [no] at q
      exact q (r.congr (fun _ => rfl) sz.symm)
    refine wpAny_bind (say _ ?_)
    split
    · refine wpAny_bind ?_
      rw [hashByValue_scannable 8 hs]
      refine wpAny_pure (setG_tail (kd := kd) ?_ h1 h2 h3 i4 i5 i6 i7 ?_ ?_ ?_ ?_)
      · intro b z Q' q
        exact say b q
      · split
        · exact q2
        · exact SetTable.fits_plain_off q2
      · split <;> exact q3
      · split <;> exact i11
      · intro hp' sb r
        dsimp only
        exact wpAny_pure (fin hp' sb r)
    · refine wpAny_bind (wpAny_pure ?_)
      simp only [↓reduceIte]
      refine setG_tail (kd := kd) ?_ h1 h2 h3 i4 i5 i6 i7 q2 q3 i11 ?_
      · intro b z Q' q
        exact say b q
      · intro hp' sb r
        dsimp only
        exact wpAny_pure (fin hp' sb r)
end
end Sx

/-! S20: sorted(set(texts)), the calls. -/
namespace Sx
open PySem PySem.Spec PyProof.Rows L2
section
variable {P : Program} {w : World} {κ : Type} [DecidableEq κ] {kd : KeyKind P w κ} {A : Around} {E : Value → Shared → Prop} {s : Shared}
/-- an empty set, as it is made -/
abbrev newS (w : World) : Obj := { cls := .type "set", dict := none, data := .set #[] 0 (.fresh 0 0 (!w.params.followText "set-order")) }
theorem setG_empty {hp : Heap} {p : Addr} (h : hp.get? p = some (newS w)) : SetG kd hp p (fun _ => false) 0 :=
  ⟨_, #[], 0, _, h, ⟨rfl, rfl, rfl⟩, rfl, fun e he => by simp at he, List.Pairwise.nil, fun k => by simp, by decide, rfl, rfl, List.Pairwise.nil, by
    show _ ∨ (!w.params.followText "set-order") = true
    cases w.params.followText "set-order" <;> simp⟩
theorem setG_loop {I : Addr} {fp wr : List Addr} {G : Array GenState → Array GenState → Prop} {n : Nat} {Pv : Nat → Value → Prop} {St : Nat → Shared → Prop} {R : Result → Shared → Prop} (W : WalksS P w A.in1 I fp wr G n Pv St) (p : Addr) (hp : p ∉ fp)
    (ks : List κ) (hn : n = ks.length) (hv : ∀ i v, Pv i v → ∃ k, ks[i]? = some k ∧ kd.is k v = true ∧ v.scannable = true) (hb : n + 1 < scanBound) :
    ∀ (j i : Nat) (z : Shared) (c : Nat), n - i = j → i ≤ n → St i z → c ≤ i → SetG kd z.heap p (fun k => decide (k ∈ ks.take i)) c → (∀ z' c', Moved (p :: wr) G z z' → c' ≤ n → SetG kd z'.heap p (fun k => decide (k ∈ ks)) c' → R (.ok (.ret .none)) z') → codeAny (model P w) A (.builtin "set.update.loop" ⟨[.ref p, .ref I], []⟩) R z := by
  have hpw : p ∉ wr := fun z => hp (W.sub _ z)
  have sub : ∀ b ∈ wr, b ∈ p :: wr := fun b z => List.mem_cons_of_mem _ z
  intro j
  induction j with
  | zero =>
    intro i z c hj hi st hc sg hR
    obtain rfl : i = n := by omega
    refine codeAny_builtin PyProof.Rows.F.entry_set_update_loop ?_
    rw [Around.under_plainId PyProof.Rows.F.plain_set_update_loop _]
    refine wpAny_bind (m := pyNext (.ref I)) (W.done z _ _ st fun z' m => wpAny_pure (hR z' c (m.mono sub) hc ((sg.at_ fun o e => m.heap p o hpw e).congr (fun k => ?_) rfl)))
    rw [hn, List.take_length]
  | succ j ih =>
    intro i z c hj hi st hc sg hR
    have lt : i < n := by omega
    refine codeAny_builtin PyProof.Rows.F.entry_set_update_loop ?_
    rw [Around.under_plainId PyProof.Rows.F.plain_set_update_loop _]
    refine wpAny_bind (m := pyNext (.ref I)) (W.item i z _ _ lt st fun v z' pv st' m => ?_)
    obtain ⟨k, ek, isk, sc⟩ := hv i v pv
    have sg' := sg.at_ fun o e => m.heap p o hpw e
    refine wpAny_bind (m := holding [v] (setAdd p v)) (wpAny_holding ?_)
    unfold setAdd
    refine wpAny_holding (wpAny_bind (kd.pyHash isk ?_))
    refine setG_add (s := { z' with toks := z'.toks + 1 }) isk sc sg' (by omega) fun h' sb sg2 => ?_
    have sg3 : SetG kd h' p (fun q => decide (q ∈ ks.take (i + 1))) (if decide (k ∈ ks.take i) = true then c else c + 1) := sg2.congr (fun q => by
      rw [List.take_add_one, ek, Bool.eq_iff_iff, Bool.or_eq_true, decide_eq_true_eq, decide_eq_true_eq, decide_eq_true_eq]
      simp) rfl
    refine wpAny_pure ⟨plainId_quiet PyProof.Rows.F.plain_set_update_loop _, ih (i + 1) _ _ (by omega) lt (W.frame _ z' _ _ st' (Nat.le_succ _) fun b hb' o e => ?_) (by split <;> omega) sg3 fun z2 c2 m2 hc2 sg4 => hR z2 c2 (Moved.trans W.gtrans ((m.mono sub).then_heap (Nat.le_succ _) fun b o hb' e => ?_) m2) hc2 sg4⟩
    · rw [sb.2 b fun q : b = p => hp (q ▸ hb')]
      exact e
    · rw [sb.2 b fun q : b = p => hb' (q ▸ List.mem_cons_self)]
      exact e
set_option maxHeartbeats 8000000 in
theorem setG_of {l : Addr} {its : Array Value} (ks : List κ) {Q : Value → Shared → Prop} (hh : A.handled = none) (hl : s.heap.IsList l its) (hi : ∀ (i : Nat) (v : Value), its[i]? = some v → ∃ k, ks[i]? = some k ∧ kd.is k v = true ∧ v.scannable = true) (hz : its.size = ks.length) (hb : ks.length + 1 < scanBound)
    (h : ∀ (h' : Heap) (tk c : Nat), SetG kd h' s.heap.objs.size (fun k => decide (k ∈ ks)) c → c ≤ ks.length → (∀ b o, s.heap.get? b = some o → h'.get? b = some o) → Q (.ref s.heap.objs.size) { s with heap := h', toks := tk }) :
    wpAny (model P w) A (call (.type "set") [.ref l]) Q E s := by
  obtain ⟨c0, tl0, mro0⟩ := PySem.F.called_set.mro
  have made0 := PySem.F.called_set.made
  have sub0 := PySem.F.called_set.sub
  have nty := PySem.F.called_set.notType
  have can := PySem.F.called_set.canCreate
  have chk := PySem.F.typeCall_set_1 (.ref l)
  refine wpAny_call (codeAny_of_tree ?_)
  show wpAny _ _ (callAny (.type "set") ⟨[.ref l], []⟩) _ _ s
  refine wpAny_pure ⟨Code.quiet_builtin _ (by decide +kernel), codeAny_builtin PySem.F.entry_type_call ?_⟩
  rw [Around.under_plain (weight_type_call_type "set" [.ref l] []) rfl]
  repeat (any_goals (first | assumption | wp_step))
  let hp1 := s.heap.push (newS w)
  refine codeAny_mono (L2.code_set_led1 (.ref l) (E := E) (Q₁ := fun ob z => ob = .ref s.heap.objs.size ∧ z = { s with heap := hp1 }) ⟨rfl, rfl⟩) fun r z hr => ?_
  cases r with
  | error e => exact hr
  | ok fl =>
    cases fl with
    | ret ob =>
      obtain ⟨rfl, rfl⟩ := hr
      have at1 : hp1.get? s.heap.objs.size = some (newS w) := Heap.get?_push_size _ rfl
      have ty1 : Shared.TypeIs { s with heap := hp1 } (.ref s.heap.objs.size) "set" := ⟨_, at1, rfl⟩
      have look1 := PySem.F.called_set.init.lookup
      have bind1 := PySem.F.called_set.init.bind (.ref s.heap.objs.size)
      repeat (any_goals (first | assumption | wp_step))
      let Rr : Value → Shared → Prop := fun r z => r = .none ∧ ∃ h' tk c, z = { s with heap := h', toks := tk } ∧ SetG kd h' s.heap.objs.size (fun k => decide (k ∈ ks)) c ∧ c ≤ ks.length ∧ ∀ b o, s.heap.get? b = some o → h'.get? b = some o
      refine codeAny_mono (codeAny_call_builtin (R := wants Rr E) PySem.F.called_set.init.plain PySem.F.entry_set_init (check_set_init_1 ty1 ?_)) fun r2 z2 hr2 => ?_
      · obtain ⟨ol, e1, e2, nl, e3⟩ := hl
        obtain ⟨oc, od, odt, osl⟩ := ol
        simp only at e2 e3
        subst e2 e3
        have at2 : hp1.get? l = some { cls := .type "list", dict := od, data := .seq its nl, slots := osl } := Heap.get?_push_of_some _ e1
        have sl1 := PySem.F.sub_list_set
        have sl2 := PySem.F.sub_list_frozenset
        have ne1 : (Value.type "list" == Value.type "dict") = false := by decide
        have il : hp1.IsList l its := ⟨_, at2, rfl, nl, rfl⟩
        unfold Builtin.«set.__init__» noKeywords Builtin.Frozenset.updateFrom
        generalize ePI : pyIter = PI
        wp_walk
        subst ePI
        refine wpAny_pyIter_list il (wpAny_bind (wpAny_runValue ?_))
        have lt1 : l < s.heap.objs.size := Heap.lt_size e1
        have sz1 : hp1.objs.size = s.heap.objs.size + 1 := Heap.size_push ..
        have hh' : A.in1.in1.in1.handled = none := by simp [hh]
        have ne2 : l ≠ hp1.objs.size := by rw [sz1]; exact Nat.ne_of_lt (Nat.lt_succ_of_lt lt1)
        have out1 : s.heap.objs.size ∉ [hp1.objs.size, l] := by
          simp only [List.mem_cons, List.not_mem_nil, or_false, not_or]
          exact ⟨by rw [sz1]; exact Nat.ne_of_lt (Nat.lt_succ_self _), Nat.ne_of_gt lt1⟩
        refine setG_loop ((Walks.list hh' _ l ne2 its).toS) s.heap.objs.size out1 ks hz hi (by rw [hz]; exact hb) (its.size - 0) 0 _ 0 rfl (Nat.zero_le _) ⟨⟨_, Heap.get?_push_size _ rfl, rfl, rfl⟩, il.push _⟩ (Nat.le_refl _) ?_ fun z' c mv hc sg => ?_
        · exact (setG_empty (Heap.get?_push_of_some _ at1)).congr (fun k => by simp) rfl
        · obtain ⟨h', g', d', tk', os'⟩ := z'
          have eg : g' = s.gens := mv.gens
          have ed : d' = s.drawn := mv.drawn
          have eo : os' = s.os := mv.os
          subst eg ed eo
          refine wpAny_pure (wpAny_pure (a := Fin.done (.ret Value.none)) ⟨rfl, h', tk', c, rfl, sg, by rw [← hz]; exact hc, fun b o e => ?_⟩)
          have hb0 := Heap.lt_size e
          refine mv.heap b o ?_ (Heap.get?_push_of_some _ (Heap.get?_push_of_some _ e))
          simp only [List.mem_cons, List.not_mem_nil, or_false, not_or]
          exact ⟨Nat.ne_of_lt hb0, by rw [sz1]; exact Nat.ne_of_lt (Nat.lt_succ_of_lt hb0)⟩
      · cases r2 with
        | error e => exact hr2
        | ok fl2 =>
          cases fl2 with
          | ret r =>
            obtain ⟨rfl, h', tk, c, rfl, sg, hc, kp⟩ := hr2
            repeat (any_goals (first | assumption | wp_step))
            exact h _ _ _ sg hc kp
          | _ => exact hr2.elim
    | _ => exact hr.elim
end
end Sx

/-! S21: sorted(set(texts)), len(set(texts)) as rules. -/
namespace Sx
open PySem PySem.Spec PyProof.Rows L2
/-- a set of the texts of zs, c of them, among what is tracked -/
def SetS (P : Program) (w : World) (p : Addr) (zs : List Str) (c : Nat) : HO := .ext fun h => SetG (PySem.strKind P w) h p (fun k => decide (k ∈ zs)) c
theorem setS_new {P : Program} {w : World} {H : Hp} {h : Heap} {p : Addr} {zs : List Str} {c : Nat} (R : SetG (PySem.strKind P w) h p (fun k => decide (k ∈ zs)) c) : ObjOk P w H h p (SetS P w p zs c) :=
  ⟨R, R.ex.imp fun _ z => let ⟨_, _, _, h1, _⟩ := z; h1, fun h1 h2 r k => SetG.at_ r k⟩
/-- the texts of a set's entries -/
theorem setG_strs {P : Program} {w : World} {h : Heap} {p : Addr} {zs : List Str} {c : Nat} {es : Array (Int × Value)} (h4 : ElemsOf (PySem.strKind P w) es.toList) (h5 : es.toList.Pairwise (Apart (PySem.strKind P w)))
    (h6 : ∀ k, decide (k ∈ zs) = true ↔ ∃ e ∈ es.toList, (PySem.strKind P w).is k e.2 = true) {vs : List Value} (pm : vs.Perm (es.toList.map (·.2))) : ∃ ks : List Str, StrsAre vs ks ∧ ks.Nodup ∧ ∀ x, x ∈ ks ↔ x ∈ zs := by
  have isS : ∀ e ∈ es.toList, ∃ k t, e.2 = .str k t := fun e he => by
    obtain ⟨⟨k, hk, _⟩, _⟩ := h4 e he
    obtain ⟨t, e2⟩ := Value.isStrOf_shape hk
    exact ⟨k, t, e2⟩
  have allS : ∀ v, v ∈ vs → ∃ x t, v = .str x t := fun v hv => by
    obtain ⟨e, he, rfl⟩ := List.mem_map.mp (pm.mem_iff.mp hv)
    exact isS e he
  have ent : ∀ e ∈ es.toList, ∀ k, (PySem.strKind P w).is k e.2 = true ↔ strOf e.2 = k := fun e he k => by
    obtain ⟨x, t, ex⟩ := isS e he
    rw [ex]
    constructor
    · intro z
      exact (PySem.strKind P w).inj _ _ _ (strKind_is P w x t) z
    · rintro rfl
      exact strKind_is P w x t
  have pk : (vs.map strOf).Perm (es.toList.map fun e => strOf e.2) := by
    have := pm.map strOf
    rwa [List.map_map] at this
  refine ⟨vs.map strOf, strsAre_map vs allS, pk.nodup_iff.mpr ?_, fun x => ?_⟩
  · rw [List.Nodup, List.pairwise_map]
    exact List.Pairwise.imp_of_mem (fun {a b} ha hb ab z => by
      have h1 := ab (strOf a.2) ((ent a ha _).mpr rfl)
      rw [(ent b hb _).mpr z.symm] at h1
      cases h1) h5
  · rw [pk.mem_iff, List.mem_map, ← decide_eq_true_iff (p := x ∈ zs), h6 x]
    exact ⟨fun ⟨e, he, q⟩ => ⟨e, he, (ent e he x).mpr q⟩, fun ⟨e, he, q⟩ => ⟨e, he, (ent e he x).mp q⟩⟩
section
variable {X : Cx}
theorem setS_get {pins : List (Addr × Obj)} {σ : L2.St} {H : Hp} {s : Shared} {p : Addr} {zs : List Str} {c : Nat} (I : Inv X pins σ H s) (e : H p = some (SetS X.prog X.w p zs c)) : SetG (PySem.strKind X.prog X.w) s.heap p (fun k => decide (k ∈ zs)) c := (I.hok p _ e).1
def rSetS (X : Cx) : List V → Hp → VK → Prop := fun xs H Q => ∃ (l : Addr) (zs : List Str), xs = [.ref l] ∧ SqL X.K H l (zs.map V.str) ∧ zs.length < 4000 ∧ ∀ p c, H p = none → c ≤ zs.length → Q (.ref p) (upd H p (SetS X.prog X.w p zs c))
theorem cr_setS (hc : X.calm = true) : CallR X (.type "set") (rSetS X) := by
  intro pins s σ H xs us Q I r h
  obtain ⟨l, zs, rfl, hl, hz, q⟩ := h
  rw [Vals.ref1 r]
  obtain ⟨its, rv, pl, _⟩ := I.list hl
  have st := rv.strs
  have len : its.toArray.size = zs.length := by
    rw [List.size_toArray]
    have := rv.length
    rw [List.length_map] at this
    exact this.symm
  refine setG_of (kd := PySem.strKind X.prog X.w) zs (I.ok.hd hc) pl.isList (fun i v hv => ?_) len (by unfold scanBound; omega) fun h' tk c R hc' k => ?_
  · have hi : i < zs.length := by rw [← len]; exact (Array.getElem?_eq_some_iff.mp hv).1
    obtain ⟨t, e⟩ := SS.strs_at st i v (by simpa using hv)
    refine ⟨zs[i], List.getElem?_eq_getElem hi, ?_, by rw [e]; rfl⟩
    rw [e, List.getD_eq_getElem?_getD, List.getElem?_eq_getElem hi]
    exact strKind_is _ _ _ _
  · exact ⟨.ref s.heap.objs.size, upd H s.heap.objs.size (SetS X.prog X.w s.heap.objs.size zs c), I.laid (t' := tk) k (Nat.le_refl _) (setS_new R), rfl, q _ _ (I.hok.fresh (Nat.le_refl _)) hc'⟩
def rSortS (X : Cx) : List V → Hp → VK → Prop := fun xs H Q => ∃ (a : Addr) (zs : List Str) (c : Nat), xs = [.ref a] ∧ H a = some (SetS X.prog X.w a zs c) ∧
  ∀ (ys : List Str) (p : Addr), sortedS ys = true → ys.Nodup → (∀ x, x ∈ ys ↔ x ∈ zs) → H p = none → Q (.ref p) (upd H p (.lst (ys.map V.str)))
theorem cr_sortS (hc : X.calm = true) : CallR X (.builtin "sorted") (rSortS X) := by
  intro pins s σ H xs us Q I r h
  obtain ⟨a, zs, c, rfl, ha, q⟩ := h
  rw [Vals.ref1 r]
  obtain ⟨ob, es, ep, tb, h1, h2, h3, h4, h5, h6, h7, h8, h9, h10, h11⟩ := (setS_get I ha).ex
  refine Calls.call_function_entry kind_sorted plain_sorted entry_sorted (args_sorted1 _) ?_
  unfold Builtin.«sorted»
  refine wpAny_bind (m := checkCount "sorted" 1 1 _) (wpAny_pure (wpAny_bind (collect_set (A := X.A.in1) (I.ok.hd hc) ⟨ob, h1, h2.1, h3⟩ h8 h7 h10 h11 fun s1 vs k1 z1 g1 o1 pm => ?_)))
  obtain ⟨ks, sk, nd, mem⟩ := setG_strs (h := s.heap) (p := a) (c := c) h4 h5 h6 pm
  have lv : vs.length ≤ sizeLine := by
    rw [pm.length_eq, List.length_map, Array.length_toList]
    exact fits_of_scanBound h7
  refine wpAny_bind (wpAny_newList ?_ lv)
  have atL : (s1.heap.push (seqObj "list" vs.toArray 0)).get? s1.heap.objs.size = some (seqObj "list" vs.toArray 0) := Heap.get?_push_size _ rfl
  refine wpAny_bind (wpAny_holding (wpAny_call_entry slot_list_sort ⟨_, atL, rfl⟩ entry_list_sort (list_sort_treeKAny strKind_oneLt atL sk.keysOf (fun v₁ v₂ rest e => keyKind_strs (by rw [← e]; exact sk)) lv fun st' hp hs => ⟨_, rfl, ?_⟩) (args_list_sort _)))
  obtain ⟨ys, g3, g4, g5⟩ := sorted_out_str sk hp hs
  obtain ⟨e3, he⟩ := sortedHeap_at (vs := vs) (out := (arrOf st').map (·.2)) atL
  have ly : (ys.map V.str).length ≤ sizeLine := by
    rw [List.length_map, g4.length_eq, ← StrsAre.len_eq sk]
    exact lv
  have kept : ∀ b u, s.heap.get? b = some u → (sortedHeap (s1.heap.push (seqObj "list" vs.toArray 0)) s1.heap.objs.size vs ((arrOf st').map (·.2))).get? b = some u := fun b u e => by
    have q1 := k1 b u e
    have lt := Heap.lt_size q1
    rw [sortedHeap_old (Nat.ne_of_lt lt) (by rw [Heap.size_push]; exact Nat.lt_succ_of_lt lt)]
    exact Heap.get?_push_of_some _ q1
  have nw : H s1.heap.objs.size = none := I.hok.fresh z1
  refine wpAny_pure ⟨_, rfl, .ref s1.heap.objs.size, upd H s1.heap.objs.size (.lst (ys.map V.str)), ?_, rfl, q ys _ g5 (g4.nodup_iff.mpr nd) (fun x => g4.mem_iff.trans (mem x)) nw⟩
  exact I.call' (ch := []) o1 (Un.laid kept z1 nw) (I.hok.laid kept z1 ⟨ly, ((arrOf st').map (·.2)).toList, e3, vals_of_strs g3, by rw [Array.toArray_toList]; exact he⟩) (by show AllBare s1.gens; rw [g1]; exact I.bare) fun _ z => nomatch z
def rLenS (X : Cx) : List V → Hp → VK → Prop := fun xs H Q => ∃ (a : Addr) (zs : List Str) (c : Nat), xs = [.ref a] ∧ H a = some (SetS X.prog X.w a zs c) ∧ ∀ ks : List Str, ks.Nodup → (∀ x, x ∈ ks ↔ x ∈ zs) → Q (.int ks.length) H
theorem cr_lenSet : CallR X (.builtin "len") (rLenS X) := by
  intro pins s σ H xs us Q I r h
  obtain ⟨a, zs, c, rfl, ha, q⟩ := h
  rw [Vals.ref1 r]
  obtain ⟨ob, es, ep, tb, h1, h2, h3, h4, h5, h6, h7, h8, h9, h10, h11⟩ := (setS_get I ha).ex
  obtain ⟨ks, sk, nd, mem⟩ := setG_strs (h := s.heap) (p := a) (c := c) h4 h5 h6 (List.Perm.refl _)
  have lk : es.size = ks.length := by
    have := StrsAre.len_eq sk
    rw [List.length_map, Array.length_toList] at this
    exact this
  refine call_len_set h1 h2 h3 h8 (by unfold scanBound at h7; omega) ⟨.int ks.length, H, I.tok _, ⟨_, by rw [lk]⟩, q ks nd mem⟩
end
end Sx

/-! S22: rules for filters: sorted(set(..)), tuples cut, own ~, instances called, o.m( *e), defs with *args. -/
namespace Sx
open PySem PySem.Spec PyProof.Rows L2
open LamX (Tabs TabS TabB ExtN)
/-! ### texts in order, each once -/
def leS (a b : Str) : Bool := !decide (b.cps.toList < a.cps.toList)
def sortU (zs : List Str) : List Str := zs.eraseDups.mergeSort leS
theorem leS_iff {a b : Str} : leS a b = true ↔ a.cps.toList ≤ b.cps.toList := by
  unfold leS
  rw [Bool.not_eq_true', decide_eq_false_iff_not]
  exact Iff.rfl
theorem leS_trans {a b c : Str} (h : leS a b = true) (k : leS b c = true) : leS a c = true := leS_iff.mpr (List.le_trans (leS_iff.mp h) (leS_iff.mp k))
theorem leS_total (a b : Str) : (leS a b || leS b a) = true := by
  rw [Bool.or_eq_true, leS_iff, leS_iff]
  exact List.le_total _ _
theorem leS_anti {a b : Str} (h : leS a b = true) (k : leS b a = true) : a = b := by
  have e := List.le_antisymm (leS_iff.mp h) (leS_iff.mp k)
  obtain ⟨⟨x⟩⟩ := a
  obtain ⟨⟨z⟩⟩ := b
  simp at e
  rw [e]
theorem rising_pw : ∀ {ys : List Str} {p : Str}, risingS p ys = true → (∀ y ∈ ys, leS p y = true) ∧ ys.Pairwise fun a b => leS a b = true
  | [], p, _ => ⟨fun _ z => absurd z List.not_mem_nil, List.Pairwise.nil⟩
  | x :: r, p, h => by
    unfold risingS at h
    obtain ⟨h1, h2⟩ := Bool.and_eq_true_iff.mp h
    have hp : leS p x = true := by
      unfold leS
      rwa [← ltCps_eq]
    obtain ⟨g1, g2⟩ := rising_pw h2
    exact ⟨fun y hy => by
      rcases List.mem_cons.mp hy with rfl | hy
      · exact hp
      · exact leS_trans hp (g1 y hy), List.pairwise_cons.mpr ⟨g1, g2⟩⟩
theorem sorted_pw {ys : List Str} (h : sortedS ys = true) : ys.Pairwise fun a b => leS a b = true := by
  cases ys with
  | nil => exact List.Pairwise.nil
  | cons x r =>
    obtain ⟨g1, g2⟩ := rising_pw (show risingS x r = true from h)
    exact List.pairwise_cons.mpr ⟨g1, g2⟩
theorem nodup_eraseDups : ∀ (n : Nat) (zs : List Str), zs.length ≤ n → zs.eraseDups.Nodup
  | 0, [], _ => by rw [List.eraseDups_nil]; exact List.nodup_nil
  | n + 1, [], _ => by rw [List.eraseDups_nil]; exact List.nodup_nil
  | n + 1, z :: zs, h => by
    rw [List.eraseDups_cons, List.nodup_cons]
    refine ⟨fun q => ?_, nodup_eraseDups n _ (Nat.le_trans (List.length_filter_le _ _) (Nat.le_of_succ_le_succ h))⟩
    have := (List.mem_eraseDups.mp q)
    simp at this
theorem sortU_is {ys zs : List Str} (h1 : sortedS ys = true) (h2 : ys.Nodup) (h3 : ∀ x, x ∈ ys ↔ x ∈ zs) : ys = sortU zs := by
  have nd := nodup_eraseDups _ zs (Nat.le_refl _)
  have pm : ys.Perm zs.eraseDups := (List.perm_ext_iff_of_nodup h2 nd).mpr fun x => (h3 x).trans List.mem_eraseDups.symm
  unfold sortU
  refine List.Perm.eq_of_pairwise (le := fun a b : Str => leS a b = true) (fun a b _ _ h k => leS_anti h k) (sorted_pw h1) (List.pairwise_mergeSort (le := leS) (fun a b c => leS_trans) leS_total _) (pm.trans (List.mergeSort_perm _ _).symm)
/-! ### the rules -/
section
variable {y : Sy} {e o : Expr} {ρ : Rho} {η : Sto} {Q : D → Sto → Prop} {pos p1 p2 q1 : Pos}
theorem boot_set' : bootBuiltins ("set" : Str) = some (.type "set") := by decide +kernel
theorem boot_sorted' : bootBuiltins ("sorted" : Str) = some (.builtin "sorted") := by decide +kernel
theorem ev_sortSet (hm : y.X.mg "sorted" = none) (hm2 : y.X.mg "set" = none) (hc : y.X.calm = true) (h : AV y [e] ρ η fun vs η1 => ∃ (l : Addr) (zs : List Str), vs = [.ref l] ∧ (l, .lst (zs.map D.str)) ∈ η1 ∧ zs.length < 4000 ∧ ∀ p, Q (.ref p) ((p, .lst ((sortU zs).map D.str)) :: η1))
    (hg : Gl y.X "sorted" := by rfl) (hg2 : Gl y.X "set" := by rfl) (hn : noStar e = true := by rfl) : EV y (.Call (.Name "sorted" p1) [.Call (.Name "set" p2) [e] [] q1] [] pos) ρ η Q := fun fp H0 σ H S w Qv ou =>
  wE_of (pe_callB (cr_sortS hc) hg hm boot_sorted' (pa_cons (pe_callTy (cr_setS hc) hg2 hm2 boot_set' pa_w (by decide) (by decide) (star_cons hn) rfl) pa_nil rfl) (by decide) (by decide) rfl rfl) (h fp H0 σ H S w _ fun vs η1 xs H1 h1 S1 k1 a1 => by
    obtain ⟨l, zs, rfl, hm, hz, q⟩ := h1
    obtain ⟨x, rfl, ax⟩ := one_of a1
    rw [at_ref.mp ax]
    obtain ⟨_, e1, xs', rfl, as⟩ := S1.st.at_ _ _ hm
    rw [D.Ats.strs.mp as] at e1
    refine ⟨l, zs, rfl, SqL.of e1, hz, fun p c np _ => ⟨p, zs, c, rfl, upd_same, fun ys r s1 s2 s3 nr => ?_⟩⟩
    have g : Gr y.G H1 (upd H1 p (SetS y.X.prog y.X.w p zs c)) := Gr.new np
    have S2 := S1.gr g
    rw [sortU_is s1 s2 s3]
    exact ou _ _ _ _ (q r) (S2.alloc nr ⟨_, rfl, D.Ats.strs.mpr rfl⟩) ((k1.trans g.kp).trans (Gr.new nr : Gr y.G _ _).kp) (at_ref.mpr rfl))
theorem ev_lenSet (hm : y.X.mg "len" = none) (hm2 : y.X.mg "set" = none) (hc : y.X.calm = true) (h : AV y [e] ρ η fun vs η1 => ∃ (l : Addr) (zs : List Str), vs = [.ref l] ∧ (l, .lst (zs.map D.str)) ∈ η1 ∧ zs.length < 4000 ∧ ∀ ks : List Str, ks.Nodup → (∀ x, x ∈ ks ↔ x ∈ zs) → Q (.int ks.length) η1)
    (hg : Gl y.X "len" := by rfl) (hg2 : Gl y.X "set" := by rfl) (hn : noStar e = true := by rfl) : EV y (.Call (.Name "len" p1) [.Call (.Name "set" p2) [e] [] q1] [] pos) ρ η Q := fun fp H0 σ H S w Qv ou =>
  wE_of (pe_callB cr_lenSet hg hm boot_len (pa_cons (pe_callTy (cr_setS hc) hg2 hm2 boot_set' pa_w (by decide) (by decide) (star_cons hn) rfl) pa_nil rfl) (by decide) (by decide) rfl rfl) (h fp H0 σ H S w _ fun vs η1 xs H1 h1 S1 k1 a1 => by
    obtain ⟨l, zs, rfl, hm, hz, q⟩ := h1
    obtain ⟨x, rfl, ax⟩ := one_of a1
    rw [at_ref.mp ax]
    obtain ⟨_, e1, xs', rfl, as⟩ := S1.st.at_ _ _ hm
    rw [D.Ats.strs.mp as] at e1
    refine ⟨l, zs, rfl, SqL.of e1, hz, fun p c np _ => ⟨p, zs, c, rfl, upd_same, fun ks s1 s2 => ?_⟩⟩
    have g : Gr y.G H1 (upd H1 p (SetS y.X.prog y.X.w p zs c)) := Gr.new np
    exact ou _ _ _ _ (q ks s1 s2) (S1.gr g) (k1.trans g.kp) (at_int.mpr rfl))
/-- t[lo:hi], t a tuple -/
theorem ev_sliceT {lo hi : Option Expr} (h : EV y e ρ η fun d η1 => OV y lo ρ η1 fun l η2 => OV y hi ρ η2 fun u η3 => ∃ ds, d = .tup ds ∧ Q (.tup (cutD ds l u)) η3) : EV y (.Subscript e (.Slice lo hi none p2) pos) ρ η Q := fun fp H0 σ H S w Qv ou =>
  wE_of (pe_slice sl_tupA pe_w po_w po_w) (h fp H0 σ H S w _ fun d η1 x H1 h1 S1 k1 a1 => ov_run h1 S1 w _ fun l η2 H2 h2 S2 k2 => ov_run h2 S2 w _ fun u η3 H3 h3 S3 k3 => by
    obtain ⟨ds, rfl, q⟩ := h3
    obtain ⟨a, xs, rfl, sq, as⟩ := at_tup.mp ((a1.kp k2).kp k3)
    refine ⟨a, xs, rfl, sq, fun ⟨z1, z2⟩ => ?_, fun _ z nz => ?_⟩
    · refine ou _ _ _ _ q S3 (k1.trans (k2.trans k3)) (at_tup.mpr ⟨a, xs, rfl, sq, ?_⟩)
      rw [as.length] at z1 z2
      unfold cutD
      rw [z1, z2, List.drop_zero, Nat.sub_zero, List.take_length]
      exact as
    · have g : Gr y.G H3 (upd H3 z (.tup (cutV xs l u))) := Gr.new nz
      have ac : D.Ats y.G (upd H3 z (.tup (cutV xs l u))) (cutD ds l u) (cutV xs l u) := by
        have t := as.kp g.kp
        generalize upd H3 z (.tup (cutV xs l u)) = H4 at t
        unfold cutD cutV
        rw [as.length]
        exact D.Ats.take _ (D.Ats.drop _ t)
      exact ou _ _ _ _ q (S3.gr g) (k1.trans (k2.trans (k3.trans g.kp))) (at_tup.mpr ⟨z, _, rfl, SqT.of upd_same, ac⟩))
end
/-! own ~ -/
section
variable {X : Cx} {CX : CXT} {k : Nat} {C g : Addr} {sp : Sp} {E : XK}
def rOwnU (C : Addr) (sp : Sp) (E : XK) : V → Hp → VK → Prop := fun x H Q => ∃ a dx fs, x = .ref a ∧ H a = some (.ins C dx fs) ∧ sp [x] H Q E
theorem un_own (hs : PySem.W.findIn X.K (.ref C) "__invert__" = some (some (.ref g))) (hf : PySem.W.isFn X.K (.ref g) = true) (F : FnR X.prog X.w X.K X.mg X.base CX k g sp) (hr : Room k X.A) (hx : Passes CX X E) : UnR X (unaryOp .Invert) (rOwnU C sp E) := by
  intro pins s σ H x v Q I rx h
  obtain ⟨a, dx, fs, rfl, ha, q⟩ := h
  obtain rfl : v = Value.ref a := rx
  obtain ⟨od, J⟩ := inst_here I ha
  obtain ⟨m, hF⟩ := I.fr
  exact PySem.W.ksp_inv hF I.ok.mod.kin J hs hf (wpAny_call (run_fnR (us := [.ref a]) (vs := [.ref a]) F hr hx I (.cons rfl .nil) q))
end
section
variable {y : Sy} {e o : Expr} {es : List Expr} {ρ : Rho} {η : Sto} {Q : D → Sto → Prop} {pos p1 p2 : Pos} {α : Type} {F : FS α} {CX : CXT} {k : Nat} {C g : Addr}
theorem unw_own {fo : Value → Sem Value} {fs : List (Str × D)} (p : UnR y.X fo (rOwnU C (spOf y.G F) (fun _ _ _ => False))) (h : ∃ a ηr, AfterCall { y with W := fun _ _ _ _ => False, R := fun _ _ _ _ _ => False } F [.ins C fs] ρ η Q a ηr) : UnW y fo (.ins C fs) ρ η Q := fun fp H0 σ H S w Qv ou x ax => by
  obtain ⟨a, ηr, c⟩ := h
  obtain ⟨q, dx, ws, rfl, eq, _, _⟩ := at_ins.mp ax
  exact wU_of p ⟨q, dx, ws, rfl, eq, c.sp (W := fun _ _ _ _ => False) S (fun _ _ _ _ _ _ z _ => z) (D.Ats.one ax) ou fun _ _ _ z => z⟩
/-! an instance is called -/
theorem ev_callO {fs : List (Str × D)} (c : StX.CallO y.X.K C g) (K : FnR y.X.prog y.X.w y.X.K y.X.mg y.X.base CX0 k g (spOf y.G F)) (hr : Room k y.X.A) (h : EV y o ρ η fun d η1 => d = .ins C fs ∧ AV y (e :: es) ρ η1 fun vs η2 => ∃ a ηr, AfterCall y F (.ins C fs :: vs) ρ η2 Q a ηr)
    (ht : eval (.Call o (e :: es) [] pos) y.X.env = (do callWith pos (← eval o y.X.env) [] (backTo pos (starEach (e :: es) y.X.env)) (backToKw pos (keywordEach [] y.X.env))) := by rfl)
    (he : noStar e = true := by rfl) (hes : es.all noStar = true := by rfl) : EV y (.Call o (e :: es) [] pos) ρ η Q := fun fp H0 σ H S w Qv ou =>
  wE_of (StX.pe_callO (E := fun cls d H => y.W cls d σ H) pe_w c K hr pas0 pa_w ht (star_cons he) (star_any hes)) (h fp H0 σ H S w _ fun d η1 x H1 h1 S1 k1 a1 => by
    obtain ⟨rfl, h2⟩ := h1
    obtain ⟨a, dx, ws, rfl, eq, nm, af⟩ := at_ins.mp a1
    refine ⟨a, rfl, h2 fp H0 σ H1 S1 w _ fun vs η2 xs H2 h3 S2 k2 a2 => ?_⟩
    obtain ⟨b, ηr, c⟩ := h3
    exact ⟨.inr ⟨dx, ws, k2 a _ eq nm⟩, c.sp (W := y.W) S2 w (ats_cons.mpr ⟨_, _, rfl, a1.kp k2, a2⟩) (fun d η' v H' q S' k' a' => ou d η' v H' q S' (k1.trans (k2.trans k')) a') fun _ _ _ z => z⟩)
end
end Sx

/-! S23: constants of the module; o.m( *e); defs with *args; facts with tables. -/
namespace Sx
open PySem PySem.Spec PyProof.Rows L2
open LamX (Tabs TabS TabB ExtN)
/-! ### constants -/
/-- the module's name x is the tuple of these texts -/
def GTup (K : PySem.W.Frag) (mg : Str → Option Value) (x : Str) (zs : List Str) : Prop := ∃ a, mg x = some (.ref a) ∧ ∀ H, SqT K H a (zs.map V.str)
/-- the module's name x is a dict that is only read: its items -/
def GDic (K : PySem.W.Frag) (w : World) (mg : Str → Option Value) (x : Str) (kvs : List (Str × Str)) : Prop := ∃ a, mg x = some (.ref a) ∧ ∀ p ∈ kvs, KDct K w a p.1 (.str p.2)
section
variable {y : Sy} {e o b : Expr} {es : List Expr} {ρ : Rho} {η : Sto} {Q : D → Sto → Prop} {pos p1 p2 : Pos}
theorem ev_gtup {x : Str} {zs : List Str} (g : GTup y.X.K y.X.mg x zs) (h : Q (.tup (zs.map D.str)) η) (hg : Gl y.X x := by rfl) (hb : (x == ("__debug__" : Str)) = false := by decide) : EV y (.Name x pos) ρ η Q := by
  obtain ⟨a, hm, hs⟩ := g
  exact ev_glob (v := .ref a) hm rfl (fun H => at_tup.mpr ⟨a, _, rfl, hs H, D.Ats.strs.mpr rfl⟩) h hg hb
theorem ev_gint {x : Str} {i : Int} (g : ∃ t, y.X.mg x = some (.int i t)) (h : Q (.int i) η) (hg : Gl y.X x := by rfl) (hb : (x == ("__debug__" : Str)) = false := by decide) : EV y (.Name x pos) ρ η Q := by
  obtain ⟨t, hm⟩ := g
  exact ev_glob (v := .int i) hm ⟨t, rfl⟩ (fun H => at_int.mpr rfl) h hg hb
theorem ev_gstr {x z : Str} (g : ∃ t, y.X.mg x = some (.str z t)) (h : Q (.str z) η) (hg : Gl y.X x := by rfl) (hb : (x == ("__debug__" : Str)) = false := by decide) : EV y (.Name x pos) ρ η Q := by
  obtain ⟨t, hm⟩ := g
  exact ev_glob (v := .str z) hm ⟨t, rfl⟩ (fun H => at_str.mpr rfl) h hg hb
/-- X[k], X such a dict -/
theorem ev_gdic {x : Str} {kvs : List (Str × Str)} (g : GDic y.X.K y.X.w y.X.mg x kvs) (hs : PlainIx b) (h : EV y b ρ η fun d η1 => ∃ k v, d = .str k ∧ (k, v) ∈ kvs ∧ Q (.str v) η1) (hg : Gl y.X x := by rfl) (hb : (x == ("__debug__" : Str)) = false := by decide) : EV y (.Subscript (.Name x p1) b pos) ρ η Q := by
  obtain ⟨a, hm, hk⟩ := g
  refine ev_ix hs (ev_glob (v := .ref a) (d := .ref a) hm rfl (fun H => at_ref.mpr rfl) (h.mono fun d η1 z => ?_) hg hb)
  obtain ⟨k, v, rfl, hm2, q⟩ := z
  exact fun fp H0 σ H S w Qv ou u u' ax bx => wX_of ix_kdict ⟨a, k, .str v, at_ref.mp ax, at_str.mp bx, hk _ hm2, ou _ _ _ _ q S Kp.refl (at_str.mpr rfl)⟩
/-! ### o.m( *e) -/
/-- e gives d and changes nothing -/
def PureV (y : Sy) (e : Expr) (ρ : Rho) (η : Sto) (d : D) : Prop := ∀ fp H0 σ H, Sl y.G fp H0 H σ ρ η → ∀ Qv : VK, (∀ v, D.At y.G H d v → Qv v H) → wE y.X e σ H Qv
theorem pure_gtup {x : Str} {zs : List Str} (g : GTup y.X.K y.X.mg x zs) (hg : Gl y.X x := by rfl) (hb : (x == ("__debug__" : Str)) = false := by decide) : PureV y (.Name x pos) ρ η (.tup (zs.map D.str)) := fun fp H0 σ H S Qv q => by
  obtain ⟨a, hm, hs⟩ := g
  exact wE_of (pe_glob (v := .ref a) hg hm rfl hb) (q _ (at_tup.mpr ⟨a, _, rfl, hs H, D.Ats.strs.mpr rfl⟩))
theorem pure_var {x : Str} {d : D} (i : Nat) (hd : ρ[i]? = some (some d)) (hN : y.X.N[i]? = some x := by rfl) (hv : Vis y.X.env.scope x := by first | exact Or.inl rfl | exact Or.inr (Or.inl rfl) | exact Or.inr (Or.inr rfl))
    (h1 : (x == ("__debug__" : Str)) = false := by decide) (h2 : (x == ("__classdict__" : Str)) = false := by decide) : PureV y (.Name x pos) ρ η d := fun fp H0 σ H S Qv q => by
  obtain ⟨v, hv', at_⟩ := S.sl i d hd
  exact wE_of (pe_var hN hv h1 h2) ⟨v, hv', q v at_⟩
/-- a def whose last parameter takes all that is left over -/
def spStar {α : Type} (G : Gv) (F : FS α) (n : Nat) : Sp := fun vs H Q E => ∃ ws rest, vs = ws ++ rest ∧ ws.length = n ∧ rest.length ≤ sizeLine ∧ ∀ p, H p = none → spOf G F (ws ++ [V.ref p]) (upd H p (.tup rest)) Q E
variable {α : Type} {F : FS α} {CX : CXT} {k : Nat} {C g : Addr} {m : Str}
theorem ev_mtS (c : Cls y.X.K C) (bm : BMeth y.X.K C m g) (K : FnR y.X.prog y.X.w y.X.K y.X.mg y.X.base CX k g (spStar y.G F 1)) (hr : Room k y.X.A) (hx : ∀ σ, Passes CX y.X (fun cls d H => y.W cls d σ H))
    (h : EV y o ρ η fun d η1 => ((∃ fs, d = .ins C fs ∧ fs.lookup m = none) ∨ ∃ p fs, d = .ref p ∧ (p, .obj C fs) ∈ η1 ∧ fs.lookup m = none) ∧ ∃ ds a ηr, PureV y e ρ η1 (.tup ds) ∧ ds.length ≤ sizeLine ∧ AfterCall y F [d, .tup ds] ρ η1 Q a ηr)
    (hbase : attributeBase o m y.X.env (eval o y.X.env) = eval o y.X.env := by rfl) : EV y (.Call (.Attribute o m p1) [.Starred e p2] [] pos) ρ η Q := fun fp H0 σ H S w Qv ou =>
  wE_of (pe_methS (E := fun cls d H => y.W cls d σ H) pe_w c bm K hr (hx σ) pe_w hbase) (h fp H0 σ H S w _ fun d η1 x H1 h1 S1 k1 a1 => by
    obtain ⟨hd, ds, a, ηr, pv, hz, c⟩ := h1
    have look : ∀ {fs : List (Str × D)} {ws : List (Str × V)}, D.Afs y.G H1 fs ws → fs.lookup m = none → ws.lookup m = none := by
      intro fs
      induction fs with
      | nil => intro ws a _; rw [afs_nil.mp a]; rfl
      | cons p fs ih =>
        intro ws a l
        obtain ⟨g, d⟩ := p
        obtain ⟨x, ys, rfl, _, r⟩ := afs_cons.mp a
        rw [List.lookup_cons] at l ⊢
        split at l
        · cases l
        · exact ih r l
    have fin : ∀ z : Addr, x = .ref z → ∀ q, H1 q = none → wE y.X e σ (upd H1 q (.met g z)) (fun v H2 => ∃ b vs, v = .ref b ∧ SqT y.X.K H2 b vs ∧ H2 q = some (.met g z) ∧ spStar y.G F 1 (.ref z :: vs) H2 Qv (fun cls d H => y.W cls d σ H)) := fun z ez q nq => by
      have g2 : Gr y.G H1 (upd H1 q (.met g z)) := Gr.new nq
      have S2 := S1.gr g2
      refine pv fp H0 σ _ S2 _ fun v av => ?_
      obtain ⟨b, vs, rfl, sq, as⟩ := at_tup.mp av
      refine ⟨b, vs, rfl, sq, upd_same, [.ref z], vs, rfl, rfl, by rw [as.length]; exact hz, fun p np => ?_⟩
      have g3 : Gr y.G (upd H1 q (.met g z)) (upd (upd H1 q (.met g z)) p (.tup vs)) := Gr.new np
      have S3 := S2.gr g3
      refine c.sp (W := y.W) S3 w (ats_cons.mpr ⟨.ref z, [.ref p], rfl, ?_, D.Ats.one (at_tup.mpr ⟨p, vs, rfl, SqT.of upd_same, as.kp g3.kp⟩)⟩) (fun d η' v H' q S' k' a' => ou d η' v H' q S' (k1.trans (g2.kp.trans (g3.kp.trans k'))) a') fun _ _ _ z => z
      rw [← ez]
      exact (a1.kp g2.kp).kp g3.kp
    rcases hd with ⟨fs, rfl, l⟩ | ⟨p, fs, rfl, hp, l⟩
    · obtain ⟨p, dx, ws, rfl, ep, _, af⟩ := at_ins.mp a1
      exact ⟨p, dx, ws, rfl, ep, look af l, fin p rfl⟩
    · obtain ⟨_, ep, dx, ws, rfl, _, af⟩ := S1.st.at_ _ _ hp
      exact ⟨p, dx, ws, at_ref.mp a1, ep, look af l, fin p (at_ref.mp a1)⟩)
end
section
variable {P : Program} {w : World} {K : PySem.W.Frag} {mg : Str → Option Value} {base : Heap} {MC : Addr → Prop} {T : List (Addr × Str)}
/-- such a def by its body: st is its text, ps its parameters but the last, pv the last -/
theorem ok_star {α : Type} {x qual : Str} {st : Stmt} {f : Addr} {fd : FuncData} {N ps : List Str} {pv : Str} {k : Nat} (S : FS α) (F : Fun K x qual st f fd) (sc : FnScope N (ps ++ [pv]) (defScope st))
    (hb : ∀ (kV doc pm : Value) (an : Option Addr) (cdv ct : Value) (us rest : List Value), us.length = ps.length → bindArgs (PySem.W.fnOf x qual (defArgs st) (defBody st) (defScope st) .none kV doc pm an cdv ct) ⟨us ++ rest, []⟩ = (newTuple rest >>= fun t => pure (ps.zip us ++ [(pv, t)])))
    (body : ∀ (a : α) (cdv : Value) (A : Around) (outer : List Env) (s : Shared) (H : Hp) (E : XK), Room k (A.deeper (envOfC qual (defScope st) s.heap.objs.size f cdv)) →
      SVs (yBody P w K mg base MC T N qual (defScope st) f cdv A outer s H E) (defBody st) (rho0 N (S.args a)) (S.st a) { nx := fun _ η => Lose (S.ret a .non) η, rt := fun d η => Lose (S.ret a d) η }) :
    FnR P w K mg base CX0 (k + 1) f (spStar ⟨K, MC, T⟩ S ps.length) := by
  obtain ⟨oc, od, kV, doc, pm, an, cdv, ct, osl, rfl, lk, hcd⟩ := F.ex
  refine StX.fn_star (ps := ps) (sp := spOf ⟨K, MC, T⟩ S) lk hcd sc StX.cxUp_none (hb kV doc pm an cdv ct) fun A outer s H vs Q E hr hsp => ?_
  obtain ⟨a, at_, tb, h1, h2, hq, _⟩ := hsp
  refine ⟨wSs _ (defBody st), PSs.nox (pss_w (X := (cxOf CX0 P w K mg base N qual (defScope st) f cdv A outer s H E).nox)), ?_⟩
  refine body a cdv A outer s H E hr ((S.st a).map fun (x : Addr × Mo) => x.1) H (L2.start N vs) H (Sl.start at_ tb h1 h2) (fun _ _ _ _ _ _ z _ => z.elim) _ ⟨fun ρ η σ H' n S' k' => ?_, fun d ρ η v σ H' n S' k' a' => ?_, fun _ _ _ _ z => z.elim, fun _ _ _ _ z => z.elim⟩
  · obtain ⟨η1, n1, n2⟩ := S'.st.lose n
    exact hq .non η1 .non H' n1 S'.fr S'.tb n2 (at_non.mpr rfl)
  · obtain ⟨η1, n1, n2⟩ := S'.st.lose n
    exact hq d η1 v H' n1 S'.fr S'.tb n2 a'
end
/-! ### facts with tables -/
structure ToldW (fa : List He.Fa) (fn : List He5.DefA) (tf : List He.Defn) (ts : List He.Tab) (ex : PySem.W.Frag → Bool) (w : World) (h : Heap) (K : PySem.W.Frag) : Prop extends Told fa fn tf ex h K where
  ts : ∀ t ∈ ts, ∃ es n, KDict K w (t.1 K) es n
abbrev AlW : Type := (Bool × List He.FnW) × List (Option (List (Option (Str × Int))))
def toldWK (fa : List He.Fa) (fn : List He5.DefA) (tf : List He.Defn) (ts : List He.Tab) (ex : PySem.W.Frag → Bool) (g : Addr → Option Obj) (K : PySem.W.Frag) : AlW := (toldK fa fn tf ex g K, ts.map fun t => He.dicW K (t.1 K))
def toldW (n : Nat) (fa : List He.Fa) (fn : List He5.DefA) (tf : List He.Defn) (ts : List He.Tab) (ex : PySem.W.Frag → Bool) (g : Addr → Option Obj) : AlW := toldWK fa fn tf ts ex g (He.frT g (He5.asA g n))
def toldWV (fn : List He5.DefA) (ts : List He.Tab) (w : World) : AlW := (toldV fn, ts.map fun t => some (He.keysIn w.params t.2))
theorem toldW_ok {n : Nat} {fa : List He.Fa} {fn : List He5.DefA} {tf : List He.Defn} {ts : List He.Tab} {ex : PySem.W.Frag → Bool} {w : World} {h : Heap} (e : toldW n fa fn tf ts ex h.get? = toldWV fn ts w) : ToldW fa fn tf ts ex w h (He.frT h.get? (He5.asA h.get? n)) := by
  have e1 : told n fa fn tf ex h.get? = toldV fn := congrArg (fun z : AlW => z.1) e
  have e2 : (ts.map fun t => He.dicW (He.frT h.get? (He5.asA h.get? n)) (t.1 (He.frT h.get? (He5.asA h.get? n)))) = ts.map fun t => some (He.keysIn w.params t.2) := congrArg (fun z : AlW => z.2) e
  refine ⟨told_ok e1, fun t ht => ?_⟩
  obtain ⟨i, hi, ei⟩ := List.mem_iff_getElem.mp ht
  have e3 := congrArg (fun l => l[i]?) e2
  simp only [List.getElem?_map, List.getElem?_eq_getElem hi, Option.map_some, ei, Option.some.injEq] at e3
  exact He.dicW_ok e3
def hookW (n : Nat) (fa : List He.Fa) (fn : List He5.DefA) (tf : List He.Defn) (ts : List He.Tab) (ex : PySem.W.Frag → Bool) : PySem.W.Hook where
  α := AlW
  obs := fun s => toldW n fa fn tf ts ex s.heap.get?
  val := fun w => toldWV fn ts w
  says := fun w h => ∃ K : PySem.W.Frag, K.In h ∧ ToldW fa fn tf ts ex w h K
  of := fun _ _ e => ⟨_, He.frT_in, toldW_ok e⟩
  keeps := fun _ _ _ ⟨K, hK, c⟩ k => ⟨K, PySem.W.Frag.In.keeps hK k, ⟨c.fa, c.fn, c.ex, c.hd, c.out, fun p hp => k _ _ (c.emp p hp)⟩, c.ts⟩
theorem toldW_eq {n : Nat} {fa : List He.Fa} {fn : List He5.DefA} {tf : List He.Defn} {ts : List He.Tab} {ex : PySem.W.Frag → Bool} {g : Addr → Option Obj} {s : Shared} (h : ∀ a, g a = s.heap.get? a) : toldW n fa fn tf ts ex g = (hookW n fa fn tf ts ex).obs s := by
  rw [show g = s.heap.get? from funext h]
  rfl
theorem gtup_of {K : PySem.W.Frag} {h : Heap} {mg : Str → Option Value} {x : Str} {zs : List Str} (X : K.In h) (G : h.Ns mainGlobals mg) (c : (He.Fa.glo x).ok K = true) (t : He.tupB K x (zs.map He.Dv.str) = true) : GTup K mg x zs := by
  refine ⟨He.ga K x, He.glo_ok X G c, fun H => ?_⟩
  have := He.tupB_ok t H
  rwa [List.map_map] at this
theorem gdic_of {K : PySem.W.Frag} {w : World} {h : Heap} {mg : Str → Option Value} {x : Str} {kvs : List (Str × Str)} (X : K.In h) (G : h.Ns mainGlobals mg) (c : (He.Fa.glo x).ok K = true) (t : ∃ es n, KDict K w (He.ga K x) es n) (v : He.valsB K (He.ga K x) (kvs.map fun p => (p.1, He.Dv.str p.2)) = true) : GDic K w mg x kvs := by
  refine ⟨He.ga K x, He.glo_ok X G c, fun p hp => ?_⟩
  obtain ⟨es, n, kd⟩ := t
  obtain ⟨u, e, r⟩ := He.valsB_ok v (List.mem_map.mpr ⟨p, hp, rfl⟩)
  exact ⟨es, n, u, kd.at_, kd.lit, e, r⟩
/-- a method that may be bound -/
def bmB (K : PySem.W.Frag) (C : Addr) (m : Str) : Bool := ownB K C m && (PySem.W.keepIn K (.ref (He.ma K C m)) && (He.eqO (PySem.W.specialIn K (.ref (He.ma K C m)) "__get__") (some (some (.builtin "function.__get__"))) && (decide (PySem.W.takesIn K (.ref (He.ma K C m)) = some false) && (decide (PySem.W.copiedNames.contains m = false) && PySem.W.fnIn K (He.ma K C m)))))
theorem bmB_ok {K : PySem.W.Frag} {C : Addr} {m : Str} (h : bmB K C m = true) : BMeth K C m (He.ma K C m) := by
  unfold bmB at h
  simp only [Bool.and_eq_true, decide_eq_true_eq] at h
  obtain ⟨h1, h2, h3, h4, h5, h6⟩ := h
  exact ⟨⟨(ownB_ok h1).1, (ownB_ok h1).2, h2⟩, He.eqO_ok h3, h4, h5, h6⟩
end Sx

/-! S24: == and != of deep data; places of the store that differ. -/
namespace Sx
open PySem PySem.Spec PyProof.Rows L2
section
variable {X : Cx}
theorem op_eqDd : OpR X (compareOp .Eq) (fun x y H Q => ∃ d e, Dp X.K H x d ∧ Dp X.K H y e ∧ d.canLay0 = true ∧ e.canLay0 = true ∧ X.A.units + min d.depth e.depth < cLine ∧ Q (.bl (PyData.eqv d e)) H) := by
  intro pins s σ H x y v u Q I rx ry h
  obtain ⟨d, e, hd, he, sd, se, hu, q⟩ := h
  obtain ⟨as, r1⟩ := Dp.reads I d x v hd rx
  obtain ⟨bs, r2⟩ := Dp.reads I e y u he ry
  exact SeqAt.compareEq_reads r1 r2 sd se hu ⟨.bl _, H, I, rfl, q⟩
theorem op_neDd : OpR X (compareOp .NotEq) (fun x y H Q => ∃ d e, Dp X.K H x d ∧ Dp X.K H y e ∧ d.canLay0 = true ∧ e.canLay0 = true ∧ X.A.units + min d.depth e.depth < cLine ∧ Q (.bl (!PyData.eqv d e)) H) := by
  intro pins s σ H x y v u Q I rx ry h
  obtain ⟨d, e, hd, he, sd, se, hu, q⟩ := h
  obtain ⟨as, r1⟩ := Dp.reads I d x v hd rx
  obtain ⟨bs, r2⟩ := Dp.reads I e y u he ry
  exact SeqAt.compareNe_reads r1 r2 sd se hu ⟨.bl _, H, I, rfl, q⟩
end
section
variable {y : Sy} {ρ : Rho} {η : Sto} {Q : D → Sto → Prop}
theorem opw_eqDd {a b : D} {x z : PyData} (hu : y.X.A.units + 200 < cLine) (hm : min x.depth z.depth ≤ 200) (ha : PdAt η a x) (hb : PdAt η b z) (h1 : x.canLay0 = true) (h2 : z.canLay0 = true) (h : Q (.bl (PyData.eqv x z)) η) : OpW y (compareOp .Eq) a b ρ η Q := fun fp H0 σ H S w Qv o v v' av bv =>
  wO_of op_eqDd ⟨x, z, ha.dp S av, hb.dp S bv, h1, h2, by omega, o _ η _ H h S Kp.refl (at_bl.mpr rfl)⟩
theorem opw_neDd {a b : D} {x z : PyData} (hu : y.X.A.units + 200 < cLine) (hm : min x.depth z.depth ≤ 200) (ha : PdAt η a x) (hb : PdAt η b z) (h1 : x.canLay0 = true) (h2 : z.canLay0 = true) (h : Q (.bl (!PyData.eqv x z)) η) : OpW y (compareOp .NotEq) a b ρ η Q := fun fp H0 σ H S w Qv o v v' av bv =>
  wO_of op_neDd ⟨x, z, ha.dp S av, hb.dp S bv, h1, h2, by omega, o _ η _ H h S Kp.refl (at_bl.mpr rfl)⟩
theorem eqv_nil (xs : List PyData) : PyData.eqv (.list xs) (.list []) = xs.isEmpty := by
  cases xs <;> simp [PyData.eqv, PyData.eqvAll]
/-- xs != [], xs == [] -/
theorem opw_neNil {p q : Addr} {ds : List D} {xs : List PyData} (hu : y.X.A.units + 200 < cLine) (hp : (p, .lst ds) ∈ η) (hq : (q, .lst []) ∈ η) (hd : PdAll η ds xs) (h1 : PyData.canLayAll0 xs = true) (h : Q (.bl (!ds.isEmpty)) η) : OpW y (compareOp .NotEq) (.ref p) (.ref q) ρ η Q := by
  refine opw_neDd hu (x := .list xs) (z := .list []) (by simp [PyData.depth, PyData.depthAll]) (.lst hp hd) (.lst hq .nil) (by simp [PyData.canLay0, h1]) (by simp [PyData.canLay0, PyData.canLayAll0]) ?_
  rw [eqv_nil]
  have : xs.isEmpty = ds.isEmpty := by cases hd <;> rfl
  rw [this]
  exact h
theorem opw_eqNil {p q : Addr} {ds : List D} {xs : List PyData} (hu : y.X.A.units + 200 < cLine) (hp : (p, .lst ds) ∈ η) (hq : (q, .lst []) ∈ η) (hd : PdAll η ds xs) (h1 : PyData.canLayAll0 xs = true) (h : Q (.bl ds.isEmpty) η) : OpW y (compareOp .Eq) (.ref p) (.ref q) ρ η Q := by
  refine opw_eqDd hu (x := .list xs) (z := .list []) (by simp [PyData.depth, PyData.depthAll]) (.lst hp hd) (.lst hq .nil) (by simp [PyData.canLay0, h1]) (by simp [PyData.canLay0, PyData.canLayAll0]) ?_
  rw [eqv_nil]
  have : xs.isEmpty = ds.isEmpty := by cases hd <;> rfl
  rw [this]
  exact h
end
end Sx

/-! S25: match over a text, case by case. -/
namespace Sx
open PySem PySem.Spec PyProof.Rows L2
def MCs (y : Sy) (cs : List MatchCase) (x : Str) (ρ : Rho) (η : Sto) (N : En) : Prop := ∃ o, pick cs x = some o ∧ match o with | some body => SVs y body ρ η N | none => N.nx ρ η
section
variable {y : Sy} {x : Str} {ρ : Rho} {η : Sto} {N : En} {e : Expr} {pos : Pos} {p : Pattern} {body : List Stmt} {rest cs : List MatchCase}
theorem sv_matchC (h : EV y e ρ η fun d η1 => ∃ x, d = .str x ∧ MCs y cs x ρ η1 N) : SV y (.Match e cs pos) ρ η N :=
  sv_match (h.mono fun d η1 ⟨x, e, o, q1, q2⟩ => ⟨x, o, e, q1, q2⟩)
theorem mc_skip (h : MCs y rest x ρ η N) (hp : patHits p x = some false := by decide +kernel) : MCs y (⟨p, none, body⟩ :: rest) x ρ η N := by
  obtain ⟨o, q1, q2⟩ := h
  refine ⟨o, ?_, q2⟩
  show ((patHits p x).bind fun b => if b then some (some body) else pick rest x) = _
  rw [hp]
  exact q1
theorem mc_here (h : SVs y body ρ η N) (hp : patHits p x = some true := by decide +kernel) : MCs y (⟨p, none, body⟩ :: rest) x ρ η N := by
  refine ⟨some body, ?_, h⟩
  show ((patHits p x).bind fun b => if b then some (some body) else pick rest x) = _
  rw [hp]
  rfl
end
theorem putM_in {a : Addr} {m k : Mo} : ∀ {l r : Sto}, ((l ++ (a, k) :: r).map (·.1)).Nodup → putM a m (l ++ (a, k) :: r) = l ++ (a, m) :: r
  | [], r, _ => putM_here
  | (b, n) :: l, r, nd => by
    rw [List.cons_append, List.map_cons, List.nodup_cons] at nd
    have ne : b ≠ a := fun e => nd.1 (List.mem_map.mpr ⟨(a, k), List.mem_append_right _ List.mem_cons_self, e.symm⟩)
    rw [List.cons_append, putM_skip ne, putM_in nd.2]
    rfl
theorem MtW.nd {y : Sy} {id : String} {d : D} {ds : List D} {ρ : Rho} {η : Sto} {Q : D → Sto → Prop} (h : (η.map (·.1)).Nodup → MtW y id d ds ρ η Q) : MtW y id d ds ρ η Q := fun fp H0 σ H S => h S.st.nd fp H0 σ H S
theorem SVs.perm {y : Sy} {sts : List Stmt} {ρ : Rho} {η η1 : Sto} {N : En} (p : η.Perm η1) (h : SVs y sts ρ η N) : SVs y sts ρ η1 N := h.sub (fun _ z => p.subset z) fun n => (p.map _).nodup_iff.mpr n
theorem EV.perm {y : Sy} {e : Expr} {ρ : Rho} {η η1 : Sto} {Q : D → Sto → Prop} (p : η.Perm η1) (h : EV y e ρ η Q) : EV y e ρ η1 Q := h.sub (fun _ z => p.subset z) fun n => (p.map _).nodup_iff.mpr n
theorem TV.perm {y : Sy} {e : Expr} {ρ : Rho} {η η1 : Sto} {Q : Bool → Sto → Prop} (p : η.Perm η1) (h : TV y e ρ η Q) : TV y e ρ η1 Q := fun fp H0 σ H S => h fp H0 σ H (S.sub (fun _ z => p.subset z) ((p.map _).nodup_iff.mpr S.st.nd))
section
variable {y : Sy} {o e : Expr} {es : List Expr} {ρ : Rho} {η : Sto} {Q : D → Sto → Prop} {pos p1 : Pos} {α : Type} {F : FS α} {k : Nat} {C f : Addr} {m : Str}
/-- o.m(e, ..) of a method with a star parameter -/
theorem ev_mtV {pl : Sem Bool} (c : Cls y.X.K C) (hm : Meth y.X.K C m f) (K : FnR y.X.prog y.X.w y.X.K y.X.mg y.X.base CX0 k f (spStar y.G F 1)) (hr : Room k y.X.A)
    (h : EV y o ρ η fun d η1 => ((∃ fs, d = .ins C fs ∧ fs.lookup m = none) ∨ ∃ p fs, d = .ref p ∧ (p, .obj C fs) ∈ η1 ∧ fs.lookup m = none) ∧ AV y (e :: es) ρ η1 fun vs η2 => vs.length ≤ sizeLine ∧ ∃ a ηr, AfterCall y F [d, .tup vs] ρ η2 Q a ηr)
    (hst : starEach (e :: es) y.X.env = (false, eval e y.X.env) :: starEach es y.X.env := by exact star_cons (by rfl)) (hpl : (backTo pos (starEach es y.X.env)).any (·.1) = false := by exact star_any (by rfl))
    (ht : eval (.Call (.Attribute o m p1) (e :: es) [] pos) y.X.env = (do
      let ov ← eval o y.X.env
      standAt p1.atName
      let (f, first) ← holding [ov] (getMethod ov m pl)
      callWith pos f first (backTo pos (starEach (e :: es) y.X.env)) (backToKw pos (keywordEach [] y.X.env))) := by rfl) : EV y (.Call (.Attribute o m p1) (e :: es) [] pos) ρ η Q := fun fp H0 σ H S w Qv ou =>
  wE_of (pe_methR (E := fun cls d H => y.W cls d σ H) (pl := pl) pe_w c hm K hr pas0 pa_w hst hpl ht) (h fp H0 σ H S w _ fun d η1 x H1 h1 S1 k1 a1 => by
    obtain ⟨hd, h1⟩ := h1
    have look : ∀ {fs : List (Str × D)} {ws : List (Str × V)}, D.Afs y.G H1 fs ws → fs.lookup m = none → ws.lookup m = none := by
      intro fs
      induction fs with
      | nil => intro ws a _; rw [afs_nil.mp a]; rfl
      | cons p fs ih =>
        intro ws a l
        obtain ⟨g, d⟩ := p
        obtain ⟨x, ys, rfl, _, r⟩ := afs_cons.mp a
        rw [List.lookup_cons] at l ⊢
        split at l
        · cases l
        · exact ih r l
    have fin : ∀ (q : Addr), x = .ref q → wA y.X (e :: es) σ H1 (fun vs H2 => spStar y.G F 1 (x :: vs) H2 Qv (fun cls d H => y.W cls d σ H)) := fun q eq => h1 fp H0 σ H1 S1 w _ fun vs η2 xs H2 h2 S2 k2 a2 => by
      obtain ⟨hz, a, ηr, c⟩ := h2
      refine ⟨[x], xs, rfl, rfl, by rw [a2.length]; exact hz, fun p np => ?_⟩
      have g3 : Gr y.G H2 (upd H2 p (.tup xs)) := Gr.new np
      have S3 := S2.gr g3
      exact c.sp (W := y.W) S3 w (ats_cons.mpr ⟨x, [.ref p], rfl, (a1.kp k2).kp g3.kp, D.Ats.one (at_tup.mpr ⟨p, xs, rfl, SqT.of upd_same, a2.kp g3.kp⟩)⟩) (fun d η' v H' q S' k' a' => ou d η' v H' q S' (k1.trans (k2.trans (g3.kp.trans k'))) a') fun _ _ _ z => z
    rcases hd with ⟨fs, rfl, l⟩ | ⟨p, fs, rfl, hp, l⟩
    · obtain ⟨p, dx, ws, rfl, ep, _, af⟩ := at_ins.mp a1
      exact ⟨p, dx, ws, rfl, ep, look af l, fin p rfl⟩
    · obtain ⟨_, ep, dx, ws, rfl, _, af⟩ := S1.st.at_ _ _ hp
      exact ⟨p, dx, ws, at_ref.mp a1, ep, look af l, fin p (at_ref.mp a1)⟩)
end
section
variable {y : Sy} {ρ : Rho} {η : Sto} {Q : D → Sto → Prop} {i j : Int}
theorem cw_minP (hc : y.X.calm = true) (h : Q (.int (if j < i then j else i)) η) : CallW y (.builtin "min") [.int i, .int j] ρ η Q := fun fp H0 σ H S w Qv o vs av => by
  obtain ⟨x, z, rfl, a1, a2⟩ := two_of av
  rw [at_int.mp a1, at_int.mp a2]
  exact wC_of (call_min2 hc) ⟨i, j, rfl, o _ η _ H h S Kp.refl (at_int.mpr rfl)⟩
theorem cw_maxP (hc : y.X.calm = true) (h : Q (.int (if j > i then j else i)) η) : CallW y (.builtin "max") [.int i, .int j] ρ η Q := fun fp H0 σ H S w Qv o vs av => by
  obtain ⟨x, z, rfl, a1, a2⟩ := two_of av
  rw [at_int.mp a1, at_int.mp a2]
  exact wC_of (call_max2 hc) ⟨i, j, rfl, o _ η _ H h S Kp.refl (at_int.mpr rfl)⟩
end
/-- a statement with what holds behind it, then the rest -/
theorem svs_cut {y : Sy} {st : Stmt} {sts : List Stmt} {ρ : Rho} {η : Sto} {N : En} (R : Rho → Sto → Prop) (h : SV y st ρ η { N with nx := R }) (k : ∀ ρ' η', R ρ' η' → SVs y sts ρ' η' N) : SVs y (st :: sts) ρ η N :=
  svs_cons fun fp H0 σ H S w D' o => h fp H0 σ H S w D' ⟨fun ρ' η' σ' H' n => o.nx ρ' η' σ' H' (k _ _ n), o.rt, o.bk, o.ct⟩
theorem atI_in {α : Type} {xs : List α} {v : Int} (h0 : 0 ≤ v) (h1 : v < (xs.length : Int)) : ∃ x, x ∈ xs ∧ xs[v.toNat]? = some x ∧ atI xs v = some x := by
  have e : xs[v.toNat]? = some (xs[v.toNat]'(by omega)) := List.getElem?_eq_getElem _
  refine ⟨_, List.getElem_mem _, e, ?_⟩
  have := atI_pos e
  rwa [Int.toNat_of_nonneg h0] at this
theorem cutD_take (xs : List D) (k : Nat) : cutD xs none (some (k : Int)) = xs.take k := by
  unfold cutD
  rw [HT.sIx_none, HT.sIx_nat, List.drop_zero, Nat.sub_zero]
  rcases Nat.le_total k xs.length with h | h
  · rw [Nat.min_eq_left h]
  · rw [Nat.min_eq_right h, List.take_of_length_le (Nat.le_refl _), List.take_of_length_le h]
theorem cutD_drop (xs : List D) (k : Nat) : cutD xs (some (k : Int)) none = xs.drop k := by
  unfold cutD
  rw [HT.sIx_none, HT.sIx_nat]
  rcases Nat.le_total k xs.length with h | h
  · rw [Nat.min_eq_left h, List.take_of_length_le (by rw [List.length_drop]; exact Nat.le_refl _)]
  · rw [Nat.min_eq_right h, List.drop_of_length_le (Nat.le_refl _), List.drop_of_length_le h, List.take_nil]
theorem split2 {α : Type} {xs : List α} {n : Nat} (h : n + 1 < xs.length) : ∃ (pre : List α) (x y : α) (post : List α), xs = pre ++ x :: y :: post ∧ pre.length = n :=
  ⟨xs.take n, xs[n]'(by omega), xs[n + 1], xs.drop (n + 2), by
    conv => lhs; rw [← List.take_append_drop n xs, List.drop_eq_getElem_cons (by omega), List.drop_eq_getElem_cons h], by rw [List.length_take]; omega⟩
theorem split1 {α : Type} {xs : List α} {n : Nat} (h : n < xs.length) : ∃ (pre : List α) (x : α) (post : List α), xs = pre ++ x :: post ∧ pre.length = n :=
  ⟨xs.take n, xs[n], xs.drop (n + 1), by
    conv => lhs; rw [← List.take_append_drop n xs, List.drop_eq_getElem_cons h], by rw [List.length_take]; omega⟩
theorem atI_mid {α : Type} {pre post : List α} {x : α} {n : Nat} (h : pre.length = n) : atI (pre ++ x :: post) (n : Int) = some x := atI_pos (by rw [List.getElem?_append_right (by omega), h, Nat.sub_self]; rfl)
theorem ixN_nat {n k : Nat} (h : k < n) : ixN n (k : Int) = some k := by
  unfold ixN
  rw [if_pos (by omega), if_pos (by omega)]
  rfl
theorem rgH {n : Nat} (h1 : 1 ≤ n) (h : n ≤ 1000) : RgC 0 ((n : Int) - 1) 2 (n / 2) := by
  have sz : Builtin.Range.rangeSize 0 ((n : Int) - 1) 2 = ((n / 2 : Nat) : Int) := by
    unfold Builtin.Range.rangeSize
    rw [if_pos (by decide)]
    split <;> omega
  refine ⟨by decide, by decide, ?_, sz⟩
  unfold Builtin.Range.small
  rw [sz]
  simp only [Builtin.Range.rangeFitsLong, Bool.and_eq_true, Bool.or_eq_true, decide_eq_true_eq, beq_iff_eq, show ((2 : Int) > 0) by decide, if_true]
  omega
theorem MtW.drop {y : Sy} {id : String} {d : D} {ds : List D} {ρ : Rho} {η η1 : Sto} {Q : D → Sto → Prop} (s : η.Sublist η1) (h : MtW y id d ds ρ η Q) : MtW y id d ds ρ η1 Q := fun fp H0 σ H S => h fp H0 σ H (S.sub (fun _ z => s.subset z) ((s.map _).nodup S.st.nd))
theorem AV.drop {y : Sy} {es : List Expr} {ρ : Rho} {η η1 : Sto} {Q : List D → Sto → Prop} (s : η.Sublist η1) (h : AV y es ρ η Q) : AV y es ρ η1 Q := fun fp H0 σ H S => h fp H0 σ H (S.sub (fun _ z => s.subset z) ((s.map _).nodup S.st.nd))
theorem AV.perm {y : Sy} {es : List Expr} {ρ : Rho} {η η1 : Sto} {Q : List D → Sto → Prop} (p : η.Perm η1) (h : AV y es ρ η Q) : AV y es ρ η1 Q := fun fp H0 σ H S => h fp H0 σ H (S.sub (fun _ z => p.subset z) ((p.map _).nodup_iff.mpr S.st.nd))
theorem ev_dict0 {y : Sy} {ρ : Rho} {η : Sto} {Q : D → Sto → Prop} {pos : Pos} (h : ∀ p, Q (.ref p) ((p, .dic []) :: η)) : EV y (.Dict [] [] pos) ρ η Q := fun fp H0 σ H S w Qv o =>
  wE_of pe_dnewK fun p np => o _ _ _ _ (h p) (S.alloc np (m := .dic []) ⟨[], rfl, rfl⟩) (Gr.new np : Gr y.G H _).kp (at_ref.mpr rfl)
theorem MtW.perm {y : Sy} {id : String} {d : D} {ds : List D} {ρ : Rho} {η η1 : Sto} {Q : D → Sto → Prop} (p : η.Perm η1) (h : MtW y id d ds ρ η Q) : MtW y id d ds ρ η1 Q := fun fp H0 σ H S => h fp H0 σ H (S.sub (fun _ z => p.subset z) ((p.map _).nodup_iff.mpr S.st.nd))
end Sx

/-! S26: what the names reach, gathered with a bit for each place; facts over it. -/
namespace Sx
open PySem PySem.Spec PyProof.Rows L2
def frN {α : Type} (n : Nat) (k : Nat → α) : α := match n with
  | 0 => k 0
  | m + 1 => k (m + 1)
def addL : List Addr → Nat → List Addr → List Addr → (Nat → List Addr → List Addr → List Addr) → List Addr
  | [], mask, all, new, k => k mask all new
  | b :: r, mask, all, new, k => frN b fun b => match Nat.testBit mask b with
    | true => addL r mask all new k
    | false => frN (Nat.lor mask (Nat.shiftLeft 1 b)) fun mask => addL r mask (b :: all) (b :: new) k
def stepL (g : Addr → Option Obj) : List Addr → Nat → List Addr → List Addr → (Nat → List Addr → List Addr → List Addr) → List Addr
  | [], mask, all, new, k => k mask all new
  | a :: r, mask, all, new, k => match g a with
    | some o => addL (He.refsD o) mask all new fun mask all new => stepL g r mask all new k
    | none => stepL g r mask all new k
def bfsL (g : Addr → Option Obj) : Nat → Nat → List Addr → List Addr → List Addr
  | 0, _, all, _ => all
  | n + 1, mask, all, fr => stepL g fr mask all [] fun mask all new => bfsL g n mask all new
def asB (g : Addr → Option Obj) (n : Nat) : List Addr := addL [mainGlobals, cStatics] 0 [] [] fun mask all _ => bfsL g n mask all [mainGlobals]
theorem told_okK {as : List Addr} {fa : List He.Fa} {fn : List He5.DefA} {tf : List He.Defn} {ex : PySem.W.Frag → Bool} {h : Heap} (e : toldK fa fn tf ex h.get? (He.frT h.get? as) = toldV fn) : Told fa fn tf ex h (He.frT h.get? as) := by
  generalize eK : He.frT h.get? as = K at e
  obtain ⟨e1, e2⟩ := Prod.mk.inj e
  simp only [Bool.and_eq_true] at e1
  obtain ⟨⟨h1, h2⟩, h3, h4⟩ := e1
  have key : ∀ p ∈ tf, PySem.W.codeHdIn K (He.cT K p).1 (He.cT K p).2 = true ∧ ∃ o, h.get? (He.cT K p).2 = some o ∧ He.emptyTab o = true := fun p hp => by
    obtain ⟨h5, h6⟩ := Bool.and_eq_true_iff.mp (List.all_eq_true.mp h4 p hp)
    refine ⟨h5, ?_⟩
    cases q : h.get? (He.cT K p).2 with
    | none => rw [q] at h6; cases h6
    | some o => rw [q] at h6; exact ⟨o, rfl, h6⟩
  refine ⟨fun f hf => List.all_eq_true.mp h1 f hf, fun d hd => ?_, h3, fun p hp => (key p hp).1, fun p hp => ?_, fun p hp => ?_⟩
  · obtain ⟨i, hi, ei⟩ := List.mem_iff_getElem.mp hd
    have e3 := congrArg (fun l => l[i]?) e2
    simp only [List.getElem?_map, List.getElem?_eq_getElem hi, Option.map_some, ei, Option.some.injEq] at e3
    exact He5.DefA.funD e3 (List.all_eq_true.mp h2 d hd)
  · obtain ⟨_, o, q, z⟩ := key p hp
    rw [← eK] at q ⊢
    exact He.frT_none q z
  · obtain ⟨_, o, q, z⟩ := key p hp
    rw [q, He.emptyTab_eq z]
def toldB (n : Nat) (fa : List He.Fa) (fn : List He5.DefA) (tf : List He.Defn) (ts : List He.Tab) (ex : PySem.W.Frag → Bool) (g : Addr → Option Obj) : AlW := toldWK fa fn tf ts ex g (He.frT g (asB g n))
theorem toldB_ok {n : Nat} {fa : List He.Fa} {fn : List He5.DefA} {tf : List He.Defn} {ts : List He.Tab} {ex : PySem.W.Frag → Bool} {w : World} {h : Heap} (e : toldB n fa fn tf ts ex h.get? = toldWV fn ts w) : ToldW fa fn tf ts ex w h (He.frT h.get? (asB h.get? n)) := by
  have e1 : toldK fa fn tf ex h.get? (He.frT h.get? (asB h.get? n)) = toldV fn := congrArg (fun z : AlW => z.1) e
  have e2 : (ts.map fun t => He.dicW (He.frT h.get? (asB h.get? n)) (t.1 (He.frT h.get? (asB h.get? n)))) = ts.map fun t => some (He.keysIn w.params t.2) := congrArg (fun z : AlW => z.2) e
  refine ⟨told_okK e1, fun t ht => ?_⟩
  obtain ⟨i, hi, ei⟩ := List.mem_iff_getElem.mp ht
  have e3 := congrArg (fun l => l[i]?) e2
  simp only [List.getElem?_map, List.getElem?_eq_getElem hi, Option.map_some, ei, Option.some.injEq] at e3
  exact He.dicW_ok e3
def hookB (n : Nat) (fa : List He.Fa) (fn : List He5.DefA) (tf : List He.Defn) (ts : List He.Tab) (ex : PySem.W.Frag → Bool) : PySem.W.Hook where
  α := AlW
  obs := fun s => toldB n fa fn tf ts ex s.heap.get?
  val := fun w => toldWV fn ts w
  says := fun w h => ∃ K : PySem.W.Frag, K.In h ∧ ToldW fa fn tf ts ex w h K
  of := fun _ _ e => ⟨_, He.frT_in, toldB_ok e⟩
  keeps := fun _ _ _ ⟨K, hK, c⟩ k => ⟨K, PySem.W.Frag.In.keeps hK k, ⟨c.fa, c.fn, c.ex, c.hd, c.out, fun p hp => k _ _ (c.emp p hp)⟩, c.ts⟩
theorem toldB_eq {n : Nat} {fa : List He.Fa} {fn : List He5.DefA} {tf : List He.Defn} {ts : List He.Tab} {ex : PySem.W.Frag → Bool} {g : Addr → Option Obj} {s : Shared} (h : ∀ a, g a = s.heap.get? a) : toldB n fa fn tf ts ex g = (hookB n fa fn tf ts ex).obs s := by
  rw [show g = s.heap.get? from funext h]
  rfl
end Sx

namespace Sx
open PySem PySem.Spec PyProof.Rows L2 TL
/-! whole numbers as texts -/
def intS (i : Int) : Str := Str.ofString (toString i)
theorem tl_nat (n : Nat) : tl (intS (n : Int)) = numL n := tl_num n
theorem tl_neg (n : Nat) : tl (intS (-((n + 1 : Nat) : Int))) = 45 :: numL (n + 1) := by
  have e : (-((n + 1 : Nat) : Int)) = Int.negSucc n := rfl
  unfold intS
  rw [e]
  have e2 : (toString (Int.negSucc n) : String) = "-" ++ toString ((n + 1 : Nat) : Int) := rfl
  rw [e2, tl_ofString, String.toList_append, List.map_append]
  have h := tl_num (n + 1)
  rw [tl_ofString] at h
  rw [h]
  rfl
theorem tl_int (i : Int) : tl (intS i) = (if i < 0 then [45] else []) ++ numL i.natAbs := by
  by_cases h : i < 0
  · obtain ⟨n, rfl⟩ : ∃ n : Nat, i = -((n + 1 : Nat) : Int) := ⟨i.natAbs - 1, by omega⟩
    rw [tl_neg, if_pos h]
    have : (-((n + 1 : Nat) : Int)).natAbs = n + 1 := by omega
    rw [this]
    rfl
  · obtain ⟨n, rfl⟩ : ∃ n : Nat, i = (n : Int) := ⟨i.toNat, by omega⟩
    rw [tl_nat, if_neg h]
    rfl
theorem tl_abs (i : Int) : tl (intS (i.natAbs : Int)) = numL i.natAbs := tl_nat _
theorem intS_len {i : Int} (h : i.natAbs < 10 ^ 13) : (intS i).length ≤ 14 := by
  have := numL_len (k := 13) (by decide) h
  rw [len_tl, tl_int, List.length_append]
  split <;> simp only [List.length_cons, List.length_nil] <;> omega
theorem int_read {i : Int} (h : i.natAbs < 10 ^ 13) : PySem.intText? (intS i) = some i := by
  have l := numL_len (k := 13) (by decide) h
  by_cases hn : i < 0
  · obtain ⟨n, rfl⟩ : ∃ n : Nat, i = -((n + 1 : Nat) : Int) := ⟨i.natAbs - 1, by omega⟩
    have e : (-((n + 1 : Nat) : Int)).natAbs = n + 1 := by omega
    rw [e] at l
    have := intText_neg (x := intS (-((n + 1 : Nat) : Int))) (cs := numL (n + 1)) (tl_neg n) (numL_digits _) (numL_ne _) (by rw [len_tl, tl_neg, List.length_cons]; omega)
    rw [this, numL_val]
  · obtain ⟨n, rfl⟩ : ∃ n : Nat, i = (n : Int) := ⟨i.toNat, by omega⟩
    exact int_num (by have e : ((n : Nat) : Int).natAbs = n := rfl; rw [e] at l; omega)
theorem sub_head (x : Str) : PySem.Builtin.Str.subAt x "-" 0 = ((tl x).take 1 == [45]) := by
  have e1 : (("-") : Str).length = 1 := by decide
  have e2 : (("-") : Str).cps = #[45] := by decide
  unfold PySem.Builtin.Str.subAt
  rw [e1, e2]
  have h : (x.cps.extract 0 (0 + 1)).toList = (tl x).take 1 := by
    rw [Array.toList_extract]
    simp [List.extract, tl]
  rw [← h]
  cases e : (x.cps.extract 0 (0 + 1)) with
  | mk l => 
    by_cases hl : l = [45]
    · subst hl; rfl
    · have h1 : ((l : List Nat) == [45]) = false := by simpa using hl
      have h2 : ((⟨l⟩ : Array Nat) == #[45]) = false := by simpa using hl
      rw [h2]
      exact h1.symm
theorem rp_int (i : Int) : Txt.removeprefix (intS i) "-" = intS (i.natAbs : Int) := by
  have e1 : (("-") : Str).length = 1 := by decide
  unfold Txt.removeprefix
  rw [sub_head, e1]
  by_cases h : i < 0
  · have et : tl (intS i) = 45 :: numL i.natAbs := by rw [tl_int, if_pos h]; rfl
    have eb : ((tl (intS i)).take 1 == [45]) = true := by rw [et]; rfl
    rw [eb, if_pos rfl]
    have hl : (intS i).length = (numL i.natAbs).length + 1 := by rw [len_tl, et, List.length_cons]
    have nb : ((intS i).length - 1 == (intS i).length) = false := by
      rw [hl]
      simp
    show (if ((intS i).length - 1 == (intS i).length) = true then intS i else PySem.Builtin.Str.strSub (intS i) 1 (intS i).length) = _
    rw [nb, if_neg Bool.false_ne_true]
    apply ext_tl
    rw [tl_abs, tl_strSub_end, et]
    rfl
  · have et : tl (intS i) = numL i.natAbs := by rw [tl_int, if_neg h]; rfl
    have eb : ((tl (intS i)).take 1 == [45]) = false := by
      rw [et]
      cases e : numL i.natAbs with
      | nil => rfl
      | cons c cs =>
        have hd := numL_digits i.natAbs c (by rw [e]; exact List.mem_cons_self)
        simp
        omega
    rw [eb, if_neg Bool.false_ne_true]
    apply ext_tl
    rw [tl_abs]
    exact et
theorem free_int {i : Int} {s : Nat} (h : s ≠ 45) (h2 : s < 48 ∨ 57 < s) : s ∉ tl (intS i) := by
  rw [tl_int, List.mem_append, not_or]
  refine ⟨?_, numL_free h2⟩
  split
  · rw [List.mem_singleton]
    exact h
  · exact List.not_mem_nil
theorem numL_zero : ∀ {n : Nat} {r : List Nat}, numL n = 48 :: r → n = 0 := by
  intro n
  induction n using Nat.strongRecOn with
  | _ n ih =>
    intro r h
    by_cases hn : n < 10
    · rw [numL_lt hn] at h
      injection h with h1 _
      omega
    · rw [numL_step (by omega)] at h
      cases e : numL (n / 10) with
      | nil => exact absurd e (numL_ne _)
      | cons c cs =>
        rw [e, List.cons_append] at h
        injection h with h1 _
        have := ih (n / 10) (by omega) (by rw [e, h1])
        omega
end Sx

namespace Sx
namespace K85
open PySem PySem.Spec PyProof.Rows L2
open LamX (Tabs TabS TabB ExtN)
def topS (i : Nat) : Stmt := PySem.Challenge.pw_speaklast_k85_filters_as_texts.main.body.getD i (.Pass ⟨0, 0, 0, 0⟩)
abbrev s_wall : Stmt := topS 0
abbrev n_wall : List Str := ["k"]
theorem c_wall : FnScope n_wall ["k"] (defScope s_wall) := ⟨rfl, rfl, rfl, by decide +kernel, rfl, by decide +kernel, by decide +kernel⟩
abbrev s_part_text : Stmt := topS 3
abbrev n_part_text : List Str := ["low", "high"]
theorem c_part_text : FnScope n_part_text ["low", "high"] (defScope s_part_text) := ⟨rfl, rfl, rfl, by decide +kernel, rfl, by decide +kernel, by decide +kernel⟩
abbrev s_parts_text : Stmt := topS 4
abbrev n_parts_text : List Str := ["parts", "low", "high"]
theorem c_parts_text : FnScope n_parts_text ["parts"] (defScope s_parts_text) := ⟨rfl, rfl, rfl, by decide +kernel, rfl, by decide +kernel, by decide +kernel⟩
abbrev s_show_ranges : Stmt := topS 5
abbrev n_show_ranges : List Str := ["ranges"]
theorem c_show_ranges : FnScope n_show_ranges ["ranges"] (defScope s_show_ranges) := ⟨rfl, rfl, rfl, by decide +kernel, rfl, by decide +kernel, by decide +kernel⟩
abbrev s_tree_words : Stmt := topS 6
abbrev n_tree_words : List Str := ["tree", "words", "waiting", "node"]
theorem c_tree_words : FnScope n_tree_words ["tree"] (defScope s_tree_words) := ⟨rfl, rfl, rfl, by decide +kernel, rfl, by decide +kernel, by decide +kernel⟩
abbrev s_show_filter : Stmt := topS 7
abbrev n_show_filter : List Str := ["where"]
theorem c_show_filter : FnScope n_show_filter ["where"] (defScope s_show_filter) := ⟨rfl, rfl, rfl, by decide +kernel, rfl, by decide +kernel, by decide +kernel⟩
abbrev s_is_integer : Stmt := topS 9
abbrev n_is_integer : List Str := ["value"]
theorem c_is_integer : FnScope n_is_integer ["value"] (defScope s_is_integer) := ⟨rfl, rfl, rfl, by decide +kernel, rfl, by decide +kernel, by decide +kernel⟩
abbrev s_higher_low : Stmt := topS 10
abbrev n_higher_low : List Str := ["one", "other"]
theorem c_higher_low : FnScope n_higher_low ["one", "other"] (defScope s_higher_low) := ⟨rfl, rfl, rfl, by decide +kernel, rfl, by decide +kernel, by decide +kernel⟩
abbrev s_lower_high : Stmt := topS 11
abbrev n_lower_high : List Str := ["one", "other"]
theorem c_lower_high : FnScope n_lower_high ["one", "other"] (defScope s_lower_high) := ⟨rfl, rfl, rfl, by decide +kernel, rfl, by decide +kernel, by decide +kernel⟩
abbrev s_higher_high : Stmt := topS 12
abbrev n_higher_high : List Str := ["one", "other"]
theorem c_higher_high : FnScope n_higher_high ["one", "other"] (defScope s_higher_high) := ⟨rfl, rfl, rfl, by decide +kernel, rfl, by decide +kernel, by decide +kernel⟩
abbrev s_is_empty : Stmt := topS 13
abbrev n_is_empty : List Str := ["low", "high"]
theorem c_is_empty : FnScope n_is_empty ["low", "high"] (defScope s_is_empty) := ⟨rfl, rfl, rfl, by decide +kernel, rfl, by decide +kernel, by decide +kernel⟩
abbrev s_joined : Stmt := topS 14
abbrev n_joined : List Str := ["stretches", "found", "low", "high"]
theorem c_joined : FnScope n_joined ["stretches"] (defScope s_joined) := ⟨rfl, rfl, rfl, by decide +kernel, rfl, by decide +kernel, by decide +kernel⟩
abbrev s_common : Stmt := topS 15
abbrev n_common : List Str := ["parts", "others", "found", "low", "high", "first", "last", "ends"]
theorem c_common : FnScope n_common ["parts", "others"] (defScope s_common) := ⟨rfl, rfl, rfl, by decide +kernel, rfl, by decide +kernel, by decide +kernel⟩
abbrev s_outside : Stmt := topS 16
abbrev n_outside : List Str := ["parts", "found", "low", "first", "last"]
theorem c_outside : FnScope n_outside ["parts"] (defScope s_outside) := ⟨rfl, rfl, rfl, by decide +kernel, rfl, by decide +kernel, by decide +kernel⟩
abbrev s_has_number : Stmt := topS 17
abbrev n_has_number : List Str := ["parts", "number", "low", "high"]
theorem c_has_number : FnScope n_has_number ["parts", "number"] (defScope s_has_number) := ⟨rfl, rfl, rfl, by decide +kernel, rfl, by decide +kernel, by decide +kernel⟩
abbrev s_Rangesu_initu : Stmt := inClass (topS 18) 0
abbrev n_Rangesu_initu : List Str := ["self", "stretches"]
theorem c_Rangesu_initu : FnScope n_Rangesu_initu ["self", "stretches"] (defScope s_Rangesu_initu) := ⟨rfl, rfl, rfl, by decide +kernel, rfl, by decide +kernel, by decide +kernel⟩
abbrev s_Ranges_of : Stmt := inClass (topS 18) 1
abbrev n_Ranges_of : List Str := ["cls", "numbers", "number"]
theorem c_Ranges_of : FnScope n_Ranges_of ["cls", "numbers"] (defScope s_Ranges_of) := ⟨rfl, rfl, rfl, by decide +kernel, rfl, by decide +kernel, by decide +kernel⟩
abbrev s_Ranges_between : Stmt := inClass (topS 18) 2
abbrev n_Ranges_between : List Str := ["cls", "low", "high"]
theorem c_Ranges_between : FnScope n_Ranges_between ["cls", "low", "high"] (defScope s_Ranges_between) := ⟨rfl, rfl, rfl, by decide +kernel, rfl, by decide +kernel, by decide +kernel⟩
abbrev s_Ranges_full : Stmt := inClass (topS 18) 3
abbrev n_Ranges_full : List Str := ["cls"]
abbrev s_Ranges_empty : Stmt := inClass (topS 18) 4
abbrev n_Ranges_empty : List Str := ["cls"]
theorem c_Ranges_empty : FnScope n_Ranges_empty ["cls"] (defScope s_Ranges_empty) := ⟨rfl, rfl, rfl, by decide +kernel, rfl, by decide +kernel, by decide +kernel⟩
abbrev s_Rangesu_oru : Stmt := inClass (topS 18) 5
abbrev n_Rangesu_oru : List Str := ["self", "other"]
theorem c_Rangesu_oru : FnScope n_Rangesu_oru ["self", "other"] (defScope s_Rangesu_oru) := ⟨rfl, rfl, rfl, by decide +kernel, rfl, by decide +kernel, by decide +kernel⟩
abbrev s_Rangesu_andu : Stmt := inClass (topS 18) 6
abbrev n_Rangesu_andu : List Str := ["self", "other"]
theorem c_Rangesu_andu : FnScope n_Rangesu_andu ["self", "other"] (defScope s_Rangesu_andu) := ⟨rfl, rfl, rfl, by decide +kernel, rfl, by decide +kernel, by decide +kernel⟩
abbrev s_Rangesu_subu : Stmt := inClass (topS 18) 7
abbrev n_Rangesu_subu : List Str := ["self", "other"]
theorem c_Rangesu_subu : FnScope n_Rangesu_subu ["self", "other"] (defScope s_Rangesu_subu) := ⟨rfl, rfl, rfl, by decide +kernel, rfl, by decide +kernel, by decide +kernel⟩
abbrev s_Rangesu_equ : Stmt := inClass (topS 18) 8
abbrev n_Rangesu_equ : List Str := ["self", "other"]
theorem c_Rangesu_equ : FnScope n_Rangesu_equ ["self", "other"] (defScope s_Rangesu_equ) := ⟨rfl, rfl, rfl, by decide +kernel, rfl, by decide +kernel, by decide +kernel⟩
abbrev s_Rangesu_containsu : Stmt := inClass (topS 18) 9
abbrev n_Rangesu_containsu : List Str := ["self", "value"]
theorem c_Rangesu_containsu : FnScope n_Rangesu_containsu ["self", "value"] (defScope s_Rangesu_containsu) := ⟨rfl, rfl, rfl, by decide +kernel, rfl, by decide +kernel, by decide +kernel⟩
abbrev s_Rangesu_boolu : Stmt := inClass (topS 18) 10
abbrev n_Rangesu_boolu : List Str := ["self"]
theorem c_Rangesu_boolu : FnScope n_Rangesu_boolu ["self"] (defScope s_Rangesu_boolu) := ⟨rfl, rfl, rfl, by decide +kernel, rfl, by decide +kernel, by decide +kernel⟩
abbrev s_Ranges_is_within : Stmt := inClass (topS 18) 11
abbrev n_Ranges_is_within : List Str := ["self", "other"]
abbrev s_Ranges_sample : Stmt := inClass (topS 18) 12
abbrev n_Ranges_sample : List Str := ["self", "count"]
abbrev s_columns_in : Stmt := topS 20
abbrev n_columns_in : List Str := ["tree", "found", "part"]
theorem c_columns_in : FnScope n_columns_in ["tree"] (defScope s_columns_in) := ⟨rfl, rfl, rfl, by decide +kernel, rfl, by decide +kernel, by decide +kernel⟩
abbrev s_both : Stmt := topS 21
abbrev n_both : List Str := ["one", "other", "strong"]
theorem c_both : FnScope n_both ["one", "other", "strong"] (defScope s_both) := ⟨rfl, rfl, rfl, by decide +kernel, rfl, by decide +kernel, by decide +kernel⟩
abbrev s_truth_of : Stmt := topS 22
abbrev n_truth_of : List Str := ["tree", "values", "word", "value", "inner"]
theorem c_truth_of : FnScope n_truth_of ["tree", "values"] (defScope s_truth_of) := ⟨rfl, rfl, rfl, by decide +kernel, rfl, by decide +kernel, by decide +kernel⟩
abbrev s_Filteru_initu : Stmt := inClass (topS 23) 0
abbrev n_Filteru_initu : List Str := ["self", "tree"]
theorem c_Filteru_initu : FnScope n_Filteru_initu ["self", "tree"] (defScope s_Filteru_initu) := ⟨rfl, rfl, rfl, by decide +kernel, rfl, by decide +kernel, by decide +kernel⟩
abbrev s_Filter_within : Stmt := inClass (topS 23) 1
abbrev n_Filter_within : List Str := ["cls", "column", "ranges"]
theorem c_Filter_within : FnScope n_Filter_within ["cls", "column", "ranges"] (defScope s_Filter_within) := ⟨rfl, rfl, rfl, by decide +kernel, rfl, by decide +kernel, by decide +kernel⟩
abbrev s_Filter_missing : Stmt := inClass (topS 23) 2
abbrev n_Filter_missing : List Str := ["cls", "column"]
theorem c_Filter_missing : FnScope n_Filter_missing ["cls", "column"] (defScope s_Filter_missing) := ⟨rfl, rfl, rfl, by decide +kernel, rfl, by decide +kernel, by decide +kernel⟩
abbrev s_Filter_always : Stmt := inClass (topS 23) 3
abbrev n_Filter_always : List Str := ["cls"]
theorem c_Filter_always : FnScope n_Filter_always ["cls"] (defScope s_Filter_always) := ⟨rfl, rfl, rfl, by decide +kernel, rfl, by decide +kernel, by decide +kernel⟩
abbrev s_Filter_never : Stmt := inClass (topS 23) 4
abbrev n_Filter_never : List Str := ["cls"]
theorem c_Filter_never : FnScope n_Filter_never ["cls"] (defScope s_Filter_never) := ⟨rfl, rfl, rfl, by decide +kernel, rfl, by decide +kernel, by decide +kernel⟩
abbrev s_Filteru_andu : Stmt := inClass (topS 23) 5
abbrev n_Filteru_andu : List Str := ["self", "other"]
theorem c_Filteru_andu : FnScope n_Filteru_andu ["self", "other"] (defScope s_Filteru_andu) := ⟨rfl, rfl, rfl, by decide +kernel, rfl, by decide +kernel, by decide +kernel⟩
abbrev s_Filteru_oru : Stmt := inClass (topS 23) 6
abbrev n_Filteru_oru : List Str := ["self", "other"]
theorem c_Filteru_oru : FnScope n_Filteru_oru ["self", "other"] (defScope s_Filteru_oru) := ⟨rfl, rfl, rfl, by decide +kernel, rfl, by decide +kernel, by decide +kernel⟩
abbrev s_Filteru_invertu : Stmt := inClass (topS 23) 7
abbrev n_Filteru_invertu : List Str := ["self"]
theorem c_Filteru_invertu : FnScope n_Filteru_invertu ["self"] (defScope s_Filteru_invertu) := ⟨rfl, rfl, rfl, by decide +kernel, rfl, by decide +kernel, by decide +kernel⟩
abbrev s_Filteru_equ : Stmt := inClass (topS 23) 8
abbrev n_Filteru_equ : List Str := ["self", "other"]
theorem c_Filteru_equ : FnScope n_Filteru_equ ["self", "other"] (defScope s_Filteru_equ) := ⟨rfl, rfl, rfl, by decide +kernel, rfl, by decide +kernel, by decide +kernel⟩
abbrev s_Filteru_callu : Stmt := inClass (topS 23) 9
abbrev n_Filteru_callu : List Str := ["self", "values"]
theorem c_Filteru_callu : FnScope n_Filteru_callu ["self", "values"] (defScope s_Filteru_callu) := ⟨rfl, rfl, rfl, by decide +kernel, rfl, by decide +kernel, by decide +kernel⟩
abbrev s_InvalidTextu_initu : Stmt := inClass (topS 26) 0
abbrev n_InvalidTextu_initu : List Str := ["self", "line", "word"]
theorem c_InvalidTextu_initu : FnScope n_InvalidTextu_initu ["self", "line", "word"] (defScope s_InvalidTextu_initu) := ⟨rfl, rfl, rfl, by decide +kernel, rfl, by decide +kernel, by decide +kernel⟩
abbrev s_name_in : Stmt := topS 32
abbrev n_name_in : List Str := ["word", "letter"]
theorem c_name_in : FnScope n_name_in ["word"] (defScope s_name_in) := ⟨rfl, rfl, rfl, by decide +kernel, rfl, by decide +kernel, by decide +kernel⟩
abbrev s_integer_in : Stmt := topS 33
abbrev n_integer_in : List Str := ["word", "most", "figures", "figure"]
theorem c_integer_in : FnScope n_integer_in ["word", "most"] (defScope s_integer_in) := ⟨rfl, rfl, rfl, by decide +kernel, rfl, by decide +kernel, by decide +kernel⟩
abbrev s_one_of : Stmt := topS 34
abbrev n_one_of : List Str := ["word", "words"]
theorem c_one_of : FnScope n_one_of ["word", "words"] (defScope s_one_of) := ⟨rfl, rfl, rfl, by decide +kernel, rfl, by decide +kernel, by decide +kernel⟩
abbrev s_Wordsu_initu : Stmt := inClass (topS 35) 0
abbrev n_Wordsu_initu : List Str := ["self", "line", "words"]
theorem c_Wordsu_initu : FnScope n_Wordsu_initu ["self", "line", "words"] (defScope s_Wordsu_initu) := ⟨rfl, rfl, rfl, by decide +kernel, rfl, by decide +kernel, by decide +kernel⟩
abbrev s_Words_present : Stmt := inClass (topS 35) 1
abbrev n_Words_present : List Str := ["self"]
theorem c_Words_present : FnScope n_Words_present ["self"] (defScope s_Words_present) := ⟨rfl, rfl, rfl, by decide +kernel, rfl, by decide +kernel, by decide +kernel⟩
abbrev s_Words_refuse : Stmt := inClass (topS 35) 2
abbrev n_Words_refuse : List Str := ["self"]
theorem c_Words_refuse : FnScope n_Words_refuse ["self"] (defScope s_Words_refuse) := ⟨rfl, rfl, rfl, by decide +kernel, rfl, by decide +kernel, by decide +kernel⟩
abbrev s_Words_need : Stmt := inClass (topS 35) 3
abbrev n_Words_need : List Str := ["self", "meaning"]
theorem c_Words_need : FnScope n_Words_need ["self", "meaning"] (defScope s_Words_need) := ⟨rfl, rfl, rfl, by decide +kernel, rfl, by decide +kernel, by decide +kernel⟩
abbrev s_Words_need_word : Stmt := inClass (topS 35) 4
abbrev n_Words_need_word : List Str := ["self", "words"]
theorem c_Words_need_word : FnScope n_Words_need_word ["self", "words"] (defScope s_Words_need_word) := ⟨rfl, rfl, rfl, by decide +kernel, rfl, by decide +kernel, by decide +kernel⟩
abbrev s_Words_need_name : Stmt := inClass (topS 35) 5
abbrev n_Words_need_name : List Str := ["self"]
theorem c_Words_need_name : FnScope n_Words_need_name ["self"] (defScope s_Words_need_name) := ⟨rfl, rfl, rfl, by decide +kernel, rfl, by decide +kernel, by decide +kernel⟩
abbrev s_Words_need_names : Stmt := inClass (topS 35) 6
abbrev n_Words_need_names : List Str := ["self"]
abbrev s_Words_need_end : Stmt := inClass (topS 35) 7
abbrev n_Words_need_end : List Str := ["self"]
theorem c_Words_need_end : FnScope n_Words_need_end ["self"] (defScope s_Words_need_end) := ⟨rfl, rfl, rfl, by decide +kernel, rfl, by decide +kernel, by decide +kernel⟩
abbrev s_lines_of : Stmt := topS 36
abbrev n_lines_of : List Str := ["text", "line", "part"]
theorem c_lines_of : FnScope n_lines_of ["text"] (defScope s_lines_of) := ⟨rfl, rfl, rfl, by decide +kernel, rfl, by decide +kernel, by decide +kernel⟩
abbrev s_bound_in : Stmt := topS 43
abbrev n_bound_in : List Str := ["text", "number"]
theorem c_bound_in : FnScope n_bound_in ["text"] (defScope s_bound_in) := ⟨rfl, rfl, rfl, by decide +kernel, rfl, by decide +kernel, by decide +kernel⟩
abbrev s_part_in : Stmt := topS 44
abbrev n_part_in : List Str := ["text", "bounds", "bound"]
theorem c_part_in : FnScope n_part_in ["text"] (defScope s_part_in) := ⟨rfl, rfl, rfl, by decide +kernel, rfl, by decide +kernel, by decide +kernel⟩
abbrev s_ranges_in : Stmt := topS 45
abbrev n_ranges_in : List Str := ["word", "found", "text", "part"]
theorem c_ranges_in : FnScope n_ranges_in ["word"] (defScope s_ranges_in) := ⟨rfl, rfl, rfl, by decide +kernel, rfl, by decide +kernel, by decide +kernel⟩
abbrev s_condition_from : Stmt := topS 46
abbrev n_condition_from : List Str := ["words", "word", "column"]
theorem c_condition_from : FnScope n_condition_from ["words"] (defScope s_condition_from) := ⟨rfl, rfl, rfl, by decide +kernel, rfl, by decide +kernel, by decide +kernel⟩
abbrev s_tokens_from : Stmt := topS 47
abbrev n_tokens_from : List Str := ["words", "tokens", "missing", "is_whole", "word"]
theorem c_tokens_from : FnScope n_tokens_from ["words"] (defScope s_tokens_from) := ⟨rfl, rfl, rfl, by decide +kernel, rfl, by decide +kernel, by decide +kernel⟩
abbrev s_joined_tokens : Stmt := topS 48
abbrev n_joined_tokens : List Str := ["tokens", "filters", "token", "first", "second"]
theorem c_joined_tokens : FnScope n_joined_tokens ["tokens"] (defScope s_joined_tokens) := ⟨rfl, rfl, rfl, by decide +kernel, rfl, by decide +kernel, by decide +kernel⟩
abbrev s_filter_from : Stmt := topS 49
abbrev n_filter_from : List Str := ["words", "tokens"]
theorem c_filter_from : FnScope n_filter_from ["words"] (defScope s_filter_from) := ⟨rfl, rfl, rfl, by decide +kernel, rfl, by decide +kernel, by decide +kernel⟩
abbrev s_read_filter : Stmt := topS 50
abbrev n_read_filter : List Str := ["text", "lines", "found"]
theorem c_read_filter : FnScope n_read_filter ["text"] (defScope s_read_filter) := ⟨rfl, rfl, rfl, by decide +kernel, rfl, by decide +kernel, by decide +kernel⟩
abbrev s_need_no_more : Stmt := topS 51
abbrev n_need_no_more : List Str := ["lines", "many"]
theorem c_need_no_more : FnScope n_need_no_more ["lines", "many"] (defScope s_need_no_more) := ⟨rfl, rfl, rfl, by decide +kernel, rfl, by decide +kernel, by decide +kernel⟩
abbrev s_law_pen : Stmt := topS 53
abbrev n_law_pen : List Str := ["script"]
theorem c_law_pen : FnScope n_law_pen ["script"] (defScope s_law_pen) := ⟨rfl, rfl, rfl, by decide +kernel, rfl, by decide +kernel, by decide +kernel⟩
abbrev s_law_draw : Stmt := topS 54
abbrev n_law_draw : List Str := ["pen", "many", "digit", "at", "cells", "cell", "rest", "one"]
theorem c_law_draw : FnScope n_law_draw ["pen", "many"] (defScope s_law_draw) := ⟨rfl, rfl, rfl, by decide +kernel, rfl, by decide +kernel, by decide +kernel⟩
abbrev s_law_name : Stmt := topS 55
abbrev n_law_name : List Str := ["pen", "words", "name", "k"]
theorem c_law_name : FnScope n_law_name ["pen"] (defScope s_law_name) := ⟨rfl, rfl, rfl, by decide +kernel, rfl, by decide +kernel, by decide +kernel⟩
abbrev s_law_names : Stmt := topS 56
abbrev n_law_names : List Str := ["pen", "many", "some", "letters", "names", "k", "name", "tries"]
theorem c_law_names : FnScope n_law_names ["pen", "many", "some"] (defScope s_law_names) := ⟨rfl, rfl, rfl, by decide +kernel, rfl, by decide +kernel, by decide +kernel⟩
abbrev s_law_bound : Stmt := topS 57
abbrev n_law_bound : List Str := ["pen", "pick"]
theorem c_law_bound : FnScope n_law_bound ["pen"] (defScope s_law_bound) := ⟨rfl, rfl, rfl, by decide +kernel, rfl, by decide +kernel, by decide +kernel⟩
abbrev s_law_parts : Stmt := topS 58
abbrev n_law_parts : List Str := ["pen", "most", "ends", "found", "k", "low", "high"]
theorem c_law_parts : FnScope n_law_parts ["pen", "most"] (defScope s_law_parts) := ⟨rfl, rfl, rfl, by decide +kernel, rfl, by decide +kernel, by decide +kernel⟩
abbrev s_law_ranges : Stmt := topS 59
abbrev n_law_ranges : List Str := ["parts", "found", "low", "high"]
theorem c_law_ranges : FnScope n_law_ranges ["parts"] (defScope s_law_ranges) := ⟨rfl, rfl, rfl, by decide +kernel, rfl, by decide +kernel, by decide +kernel⟩
abbrev s_law_parts_text : Stmt := topS 60
abbrev n_law_parts_text : List Str := ["parts", "texts", "low", "high", "ends", "end"]
theorem c_law_parts_text : FnScope n_law_parts_text ["parts"] (defScope s_law_parts_text) := ⟨rfl, rfl, rfl, by decide +kernel, rfl, by decide +kernel, by decide +kernel⟩
abbrev s_law_leaf : Stmt := topS 61
abbrev n_law_leaf : List Str := ["pen", "columns", "pick", "column"]
theorem c_law_leaf : FnScope n_law_leaf ["pen", "columns"] (defScope s_law_leaf) := ⟨rfl, rfl, rfl, by decide +kernel, rfl, by decide +kernel, by decide +kernel⟩
abbrev s_law_tree : Stmt := topS 62
abbrev n_law_tree : List Str := ["pen", "columns", "many", "trees", "bars", "at", "word", "k"]
theorem c_law_tree : FnScope n_law_tree ["pen", "columns", "many"] (defScope s_law_tree) := ⟨rfl, rfl, rfl, by decide +kernel, rfl, by decide +kernel, by decide +kernel⟩
abbrev s_law_filter : Stmt := topS 63
abbrev n_law_filter : List Str := ["tree", "first", "second"]
theorem c_law_filter : FnScope n_law_filter ["tree"] (defScope s_law_filter) := ⟨rfl, rfl, rfl, by decide +kernel, rfl, by decide +kernel, by decide +kernel⟩
abbrev s_law_words : Stmt := topS 64
abbrev n_law_words : List Str := ["tree", "sign", "found", "part"]
theorem c_law_words : FnScope n_law_words ["tree"] (defScope s_law_words) := ⟨rfl, rfl, rfl, by decide +kernel, rfl, by decide +kernel, by decide +kernel⟩
abbrev s_law_flat : Stmt := topS 65
abbrev n_law_flat : List Str := ["pen", "columns", "many", "trees", "found", "k"]
theorem c_law_flat : FnScope n_law_flat ["pen", "columns", "many"] (defScope s_law_flat) := ⟨rfl, rfl, rfl, by decide +kernel, rfl, by decide +kernel, by decide +kernel⟩
abbrev s_law_right : Stmt := topS 66
abbrev n_law_right : List Str := ["pen", "columns", "tree", "made", "wording", "found", "turn", "values", "column"]
theorem c_law_right : FnScope n_law_right ["pen", "columns", "tree"] (defScope s_law_right) := ⟨rfl, rfl, rfl, by decide +kernel, rfl, by decide +kernel, by decide +kernel⟩
abbrev s_law_deep : Stmt := topS 67
abbrev n_law_deep : List Str := ["pen", "many", "words", "k", "sign"]
theorem c_law_deep : FnScope n_law_deep ["pen", "many"] (defScope s_law_deep) := ⟨rfl, rfl, rfl, by decide +kernel, rfl, by decide +kernel, by decide +kernel⟩
abbrev s_law_long : Stmt := topS 68
abbrev n_law_long : List Str := ["pen", "rows", "found", "k"]
theorem c_law_long : FnScope n_law_long ["pen"] (defScope s_law_long) := ⟨rfl, rfl, rfl, by decide +kernel, rfl, by decide +kernel, by decide +kernel⟩
abbrev s_law : Stmt := topS 69
abbrev n_law : List Str := ["script", "pen", "turn", "columns", "words", "wording"]
theorem c_law : FnScope n_law ["script"] (defScope s_law) := ⟨rfl, rfl, rfl, by decide +kernel, rfl, by decide +kernel, by decide +kernel⟩
end K85
end Sx

namespace Sx
namespace K85
open PySem PySem.Spec PyProof.Rows L2
open LamX (Tabs TabS TabB ExtN)
/-! the mirror -/
abbrev Stc := Option Int × Option Int
def stc (s : Stc) : D := .tup [endD s.1, endD s.2]
def okB (o : Option Int) : Prop := ∀ i, o = some i → i.natAbs < 10 ^ 13
def okS (s : Stc) : Prop := okB s.1 ∧ okB s.2
def endT (o : Option Int) : Str := match o with
  | none => ""
  | some i => intS i
def partT (s : Stc) : Str := if s.1.isSome && decide (s.1 = s.2) then endT s.1 else (endT s.1 ++ "..") ++ endT s.2
def partsT (ps : List Stc) : Str := if ps = [] then "-" else Txt.join "," (ps.map partT)
theorem log_of {i : Int} (h : i.natAbs < 10 ^ 13) : i.natAbs.log2 < 1920 := by
  by_cases h0 : i.natAbs = 0
  · rw [h0]
    decide
  · have h1 := (Nat.log2_lt h0 (k := 44)).mpr (by omega)
    omega
theorem endT_len {o : Option Int} (h : okB o) : (endT o).length ≤ 14 := by
  cases o with
  | none => exact Nat.zero_le _
  | some i => exact intS_len (h i rfl)
section
variable {y : Sy} {ρ : Rho} {η : Sto} {Q : D → Sto → Prop}
theorem opw_eqE {a b : Option Int} (h : Q (.bl (decide (a = b))) η) : OpW y (compareOp .Eq) (endD a) (endD b) ρ η Q := fun fp H0 σ H S w Qv o x x' av bv => by
  rw [at_end av, at_end bv]
  refine wO_of op_eq ⟨?_, o _ η _ H h S Kp.refl (at_bl.mpr (congrArg V.bl ?_))⟩
  · cases a <;> cases b <;> rfl
  · cases a <;> cases b <;> simp [endU]
theorem isN_end {o : Option Int} : (endD o).isN = o.isNone := by cases o <;> rfl
end
/-- '' if x is None else str(x) -/
theorem ev_endT {y : Sy} {ρ : Rho} {η : Sto} {Q : D → Sto → Prop} {o : Option Int} {x : Str} (i : Nat) {p1 p2 p3 p4 p5 p6 p7 p8 : Pos} {j1 j2 : Nat} (hm : y.X.mg "str" = none) (hd : ρ[i]? = some (some (endD o))) (ho : okB o) (h : Q (.str (endT o)) η) (hN : y.X.N[i]? = some x := by rfl) (hv : Vis y.X.env.scope x := by first | exact Or.inl rfl | exact Or.inr (Or.inl rfl) | exact Or.inr (Or.inr rfl))
    (hg : Gl y.X "str" := by rfl) (h1 : (x == ("__debug__" : Str)) = false := by decide) (h2 : (x == ("__classdict__" : Str)) = false := by decide) : EV y (.IfExp (.Compare (.Name x p1) [.Is] [.Constant .none j1 p2] p3) (.Constant (.str "") j2 p4) (.Call (.Name "str" p5) [.Name x p6] [] p7) p8) ρ η Q := by
  refine ev_ifExp (T := fun b η1 => η1 = η ∧ b = o.isNone) (tv_cmp (nomark _) (ev_var i hd (ev_non (opw_isN ⟨_, rfl, rfl, isN_end⟩)) hN hv h1 h2)) ?_ ?_
  · rintro η1 ⟨rfl, e⟩
    cases o with
    | some _ => cases e
    | none => exact ev_str h
  · rintro η1 ⟨rfl, e⟩
    cases o with
    | none => cases e
    | some n => exact ev_callT hm boot_str (av_cons (ev_var i hd (av_nil (cw_strI (log_of (ho n rfl)) h)) hN hv h1 h2)) hg
theorem len_app (x z : Str) : (x ++ z).length = x.length + z.length := by
  show (x.cps ++ z.cps).size = _
  rw [Array.size_append]
  rfl
section
variable {P : Program} {w : World} {K : PySem.W.Frag} {mg : Str → Option Value} {base : Heap} {MC : Addr → Prop} {T : List (Addr × Str)} {f : Addr} {fd : FuncData}
def F_part_text : FS {s : Stc // okS s} := { args := fun s => [endD s.1.1, endD s.1.2], st := fun _ => [], ret := fun s d η => d = .str (partT s.1) ∧ η = [] }
theorem k_part_text (F : Fun K "part_text" "part_text" s_part_text f fd) (hs : mg "str" = none) : FnOk P w K mg base CX0 1 f fd ["low", "high"] (spOf ⟨K, MC, T⟩ F_part_text) :=
  ok_of _ F c_part_text (fun _ => rfl) fun a cdv A outer s H E hr => by
    obtain ⟨⟨lo, hi⟩, h1, h2⟩ := a
    refine svs_cons (sv_if (T := fun b η => η = [] ∧ b = (lo.isSome && decide (lo = hi))) (tv_w (wv_and (T := fun b η => η = [] ∧ b = lo.isSome) ?_ ?_ ?_)) ?_ ?_)
    · exact tv_cmp (nomark _) (ev_var 0 rfl (ev_non (opw_notN ⟨_, rfl, rfl, by cases lo <;> rfl⟩)))
    · rintro η ⟨rfl, hl⟩
      exact wv_and1 (tv_cmp (nomark _) (ev_var 0 rfl (ev_var 1 rfl (opw_eqE ⟨_, rfl, rfl, by rw [← hl]; rfl⟩))))
    · rintro η ⟨rfl, hl⟩
      exact ⟨rfl, by rw [← hl]; rfl⟩
    · rintro η ⟨rfl, hl⟩
      cases lo with
      | none => cases hl
      | some i => 
        refine svs_cons (sv_ret (ev_callT hs boot_str (av_cons (ev_var 0 rfl (av_nil (cw_strI (log_of (h1 i rfl)) ?_)))))) 
        refine lose_nil ⟨?_, rfl⟩
        unfold partT
        rw [if_pos hl.symm]
        rfl
    · rintro η ⟨rfl, hl⟩
      have l1 : (endT lo).length ≤ 14 := endT_len h1
      have l2 : (endT hi).length ≤ 14 := endT_len h2
      have l3 : (("..") : Str).length = 2 := by decide
      refine svs_nil (svs_cons (sv_ret (ev_bin (ev_bin (ev_endT (o := lo) 0 hs rfl h1 (ev_str (opw_addS (by rw [l3, sizeLine_eq]; omega) (ev_endT (o := hi) 1 hs rfl h2 (opw_addS (by rw [len_app, l3, sizeLine_eq]; omega) (lose_nil ⟨?_, rfl⟩))))))))))
      unfold partT
      rw [if_neg (by rw [← hl]; exact Bool.false_ne_true)]
/-! parts_text -/
def okPs (ps : List Stc) : Prop := (∀ s ∈ ps, okS s) ∧ ps.length ≤ 1000
theorem partT_len {s : Stc} (h : okS s) : (partT s).length ≤ 30 := by
  have h1 := endT_len h.1
  have h2 := endT_len h.2
  have l3 : (("..") : Str).length = 2 := by decide
  unfold partT
  split
  · omega
  · rw [len_app, len_app, l3]
    omega
theorem partsT_len {ps : List Stc} (h : okPs ps) : ((ps.map partT).map (·.length)).sum ≤ 30 * ps.length := by
  have : ∀ qs : List Stc, (∀ s ∈ qs, okS s) → ((qs.map partT).map (·.length)).sum ≤ 30 * qs.length := by
    intro qs
    induction qs with
    | nil => intro _; exact Nat.le_refl 0
    | cons q qs ih =>
      intro hq
      have h1 := partT_len (hq q List.mem_cons_self)
      have h2 := ih fun s hs => hq s (List.mem_cons_of_mem _ hs)
      rw [List.map_cons, List.map_cons, List.sum_cons, List.length_cons]
      omega
  exact this ps h.1
def partsD (ps : List Stc) : D := .tup (ps.map stc)
theorem pd_stc {η : Sto} (s : Stc) : PdAt η (stc s) (pairP s) := .tup (.cons pd_end (.cons pd_end .nil))
theorem pd_parts {η : Sto} (ps : List Stc) : PdAt η (partsD ps) (.tuple (ps.map pairP)) := .tup (pd_map pd_stc ps)
theorem shaped_parts (ps : List Stc) : SeqAt.shaped (.tuple (ps.map pairP)) = true := shapedT (n := 1) (fun _ => pairP_lay) (fun _ => Nat.le_of_eq pairP_depth) (by decide) ps
theorem un64 {A : Around} {k : Nat} (hr : Room k A) : A.units + 64 < cLine := by
  have := hr.un
  omega
def F_parts_text : FS {ps : List Stc // okPs ps} := { args := fun s => [partsD s.1], st := fun _ => [], ret := fun s d η => d = .str (partsT s.1) ∧ η = [] }
theorem k_parts_text {fp : Addr} {fdp : FuncData} {MC2 : Addr → Prop} (F : Fun K "parts_text" "parts_text" s_parts_text f fd) (G : FnOk P w K mg base CX0 1 fp fdp ["low", "high"] (spOf ⟨K, MC, T⟩ F_part_text)) (bp : Binds K fdp ["low", "high"] []) (mp : mg "part_text" = some (.ref fp)) (kp : PySem.W.keepIn K (.ref fp) = true) :
    FnOk P w K mg base CX0 2 f fd ["parts"] (spOf ⟨K, MC, T⟩ F_parts_text) :=
  ok_of _ F c_parts_text (fun _ => rfl) fun a cdv A outer s H E hr => by
    obtain ⟨ps, h⟩ := a
    refine svs_cons (sv_if (T := fun b η => η = [] ∧ b = decide (ps = [])) (tv_cmp (nomark _) (ev_var 0 rfl (ev_tup (av_nil ⟨Nat.zero_le _, opw_eqD (un64 hr) (pd_parts ps) (pd_parts []) (shaped_parts ps) (shaped_parts []) ⟨_, rfl, rfl, eqvT pairP_eqv ps []⟩⟩)))) ?_ ?_)
    · rintro η ⟨rfl, hl⟩
      refine svs_cons (sv_ret (ev_str (lose_nil ⟨?_, rfl⟩)))
      unfold partsT
      rw [if_pos (of_decide_eq_true hl.symm)]
    · rintro η ⟨rfl, hl⟩
      refine svs_nil (svs_cons (sv_ret (ev_join (ev_str ⟨rfl, av_cons (ev_lcM (own := [("low", 1), ("high", 2)]) (.tp [1, 2]) ps stc (fun s => D.str (partT s)) rfl c_parts_text.nd (blkOk_by (N := n_parts_text) (sc := defScope s_parts_text) (by decide +kernel)) (fun _ _ _ _ _ => pg_two rfl c_parts_text.nd rfl rfl (Or.inl rfl) (Or.inl rfl) (Or.inr rfl) (Or.inr rfl)) (by decide)
        (iv_tup (ev_var 0 rfl ⟨_, rfl, rfl, trivial, ?_, fun x hx => ⟨rfl, fun s' H' C cl fp' => ?_⟩, fun L => ?_⟩)))⟩))))
      · have := h.2
        rw [sizeLine_eq]
        omega
      · refine ev_fn (y := (yBody P w K mg base MC T n_parts_text "parts_text" (defScope s_parts_text) f cdv A outer s H E).blk s' H' _ C cl fp') G hr mp kp bp (av_cons (ev_var 1 rfl (av_cons (ev_var 2 rfl (av_nil ⟨⟨x, h.1 x hx⟩, [], rfl, List.Perm.refl _, ?_, fun _ _ _ _ z => z.elim⟩)))))
        rintro d η' ⟨rfl, rfl⟩
        exact ⟨rfl, rfl⟩
      · have l := partsT_len h
        have h2 := h.2
        have e : (ps.map fun s => D.str (partT s)) = (ps.map partT).map D.str := by rw [List.map_map]; rfl
        rw [e]
        refine av_nil (mw_join List.mem_cons_self ?_ (lose_nil ⟨?_, rfl⟩))
        · have l1 : ((",") : Str).length = 1 := by decide
          rw [l1, List.length_map]
          omega
        · unfold partsT
          rw [if_neg (of_decide_eq_false hl.symm)]
end
end K85
end Sx

namespace Sx
namespace K85
open PySem PySem.Spec PyProof.Rows L2
open LamX (Tabs TabS TabB ExtN)
def rng (C : Addr) (ps : List Stc) : D := .ins C [("parts", partsD ps)]
section
variable {P : Program} {w : World} {K : PySem.W.Frag} {mg : Str → Option Value} {base : Heap} {MC : Addr → Prop} {T : List (Addr × Str)} {f C : Addr} {fd : FuncData}
def F_show (C : Addr) : FS {ps : List Stc // okPs ps} := { args := fun s => [rng C s.1], st := fun _ => [], ret := fun s d η => d = .str (partsT s.1) ∧ η = [] }
theorem k_show (F : Fun K "show_ranges" "show_ranges" s_show_ranges f fd) (G : Cal P w K mg base 2 "parts_text" ["parts"] (spOf ⟨K, MC, T⟩ F_parts_text)) (hc : Cls K C) (hn : NoAttr K C "parts") :
    FnOk P w K mg base CX0 3 f fd ["ranges"] (spOf ⟨K, MC, T⟩ (F_show C)) :=
  ok_of _ F c_show_ranges (fun _ => rfl) fun a cdv A outer s H E hr => by
    refine svs_cons (sv_ret (ev_cal0 G hr (av_cons (ev_fld (ev_var 0 rfl ⟨C, _, partsD a.1, rfl, hc, hn, rfl, av_nil ⟨a, rfl, rfl, ?_, fun _ _ _ _ z => z⟩⟩)))))
    rintro d η' ⟨rfl, rfl⟩
    exact lose_nil ⟨rfl, rfl⟩
/-! is_integer, of an int -/
def F_isint : FS Int := { args := fun i => [.int i], st := fun _ => [], ret := fun _ d η => d = .bl true ∧ η = [] }
theorem k_isint (F : Fun K "is_integer" "is_integer" s_is_integer f fd) (h1 : mg "isinstance" = none) (h2 : mg "int" = none) (h3 : mg "bool" = none) : FnOk P w K mg base CX0 1 f fd ["value"] (spOf ⟨K, MC, T⟩ F_isint) :=
  ok_of _ F c_is_integer (fun _ => rfl) fun a cdv A outer s H E hr => by
    refine svs_cons (sv_ret (ev_and (ev_callB h1 boot_isinstance (av_cons (ev_var 0 rfl (av_cons (ev_bltn h2 PySem.Pv.boot_int (av_nil (cw_isi (.int _) (.ty _) (r := true) rfl ⟨true, rfl, fun _ => ?_, fun z => nomatch z⟩))))))))) 
    refine ev_one (ev_not (ev_callB h1 boot_isinstance (av_cons (ev_var 0 rfl (av_cons (ev_bltn h3 PySem.Pv.boot_bool (av_nil (cw_isi (.int _) (.ty _) (r := false) rfl ⟨false, rfl, ?_⟩))))))))
    exact lose_nil ⟨rfl, rfl⟩
/-! higher_high -/
def hiHi (a b : Option Int) : Option Int := match a, b with
  | some i, some j => some (max i j)
  | _, _ => none
def F_hihi : FS (Option Int × Option Int) := { args := fun s => [endD s.1, endD s.2], st := fun _ => [], ret := fun s d η => d = endD (hiHi s.1 s.2) ∧ η = [] }
theorem k_hihi (F : Fun K "higher_high" "higher_high" s_higher_high f fd) (h1 : mg "max" = none) : FnOk P w K mg base CX0 1 f fd ["one", "other"] (spOf ⟨K, MC, T⟩ F_hihi) :=
  ok_of _ F c_higher_high (fun _ => rfl) fun a cdv A outer s H E hr => by
    obtain ⟨a, b⟩ := a
    refine svs_cons (sv_ret (ev_ifExp (T := fun k η => η = [] ∧ k = (a.isNone || b.isNone)) (tv_w (wv_or (T := fun k η => η = [] ∧ k = a.isNone) (tv_cmp (nomark _) (ev_var 0 rfl (ev_non (opw_isN ⟨_, rfl, rfl, isN_end⟩)))) ?_ ?_)) ?_ ?_))
    · rintro η ⟨rfl, e⟩
      refine wv_or1 (tv_cmp (nomark _) (ev_var 1 rfl (ev_non (opw_isN ⟨_, rfl, rfl, ?_⟩))))
      rw [← e]
      exact isN_end
    · rintro η ⟨rfl, e⟩
      exact ⟨rfl, by rw [← e]; rfl⟩
    · rintro η ⟨rfl, e⟩
      refine ev_non (lose_nil ⟨?_, rfl⟩)
      cases a <;> cases b <;> first | rfl | cases e
    · rintro η ⟨rfl, e⟩
      cases a with
      | none => cases e
      | some i =>
        cases b with
        | none => cases e
        | some j => exact ev_callB h1 boot_max (av_cons (ev_lst (av_cons (ev_var 0 rfl (av_cons (ev_var 1 rfl (av_nil ⟨by show 2 ≤ sizeLine; rw [sizeLine_eq]; decide, fun p => av_nil (cw_max2 rfl List.mem_cons_self (lose_nil ⟨rfl, rfl⟩))⟩)))))))
/-! is_empty -/
def isE (a b : Option Int) : Bool := match a, b with
  | some i, some j => decide (j < i)
  | _, _ => false
def F_isE : FS (Option Int × Option Int) := { args := fun s => [endD s.1, endD s.2], st := fun _ => [], ret := fun s d η => d = .bl (isE s.1 s.2) ∧ η = [] }
theorem k_isE (F : Fun K "is_empty" "is_empty" s_is_empty f fd) : FnOk P w K mg base CX0 1 f fd ["low", "high"] (spOf ⟨K, MC, T⟩ F_isE) :=
  ok_of _ F c_is_empty (fun _ => rfl) fun a cdv A outer s H E hr => by
    obtain ⟨a, b⟩ := a
    refine svs_cons (sv_ret (ev_and (ev_cmp (nomark _) (ev_var 0 rfl (ev_non (opw_notN ⟨_, rfl, fun e => ?_, fun e => ?_⟩))))))
    · cases a with
      | none => cases e
      | some i =>
        refine ev_and (ev_cmp (nomark _) (ev_var 1 rfl (ev_non (opw_notN ⟨_, rfl, fun e => ?_, fun e => ?_⟩))))
        · cases b with
          | none => cases e
          | some j => exact ev_one (ev_cmp (nomark _) (ev_var 0 rfl (ev_var 1 rfl (opw_gt (lose_nil ⟨rfl, rfl⟩)))))
        · cases b with
          | none => exact lose_nil ⟨rfl, rfl⟩
          | some j => cases e
    · cases a with
      | none => exact lose_nil ⟨by cases b <;> rfl, rfl⟩
      | some i => cases e
/-! has_number -/
def geLo (o : Option Int) (n : Int) : Bool := match o with
  | none => true
  | some l => decide (l ≤ n)
def leHi (o : Option Int) (n : Int) : Bool := match o with
  | none => true
  | some h => decide (n ≤ h)
def inS (n : Int) (s : Stc) : Bool := geLo s.1 n && leHi s.2 n
section
variable {y : Sy} {ρ : Rho} {η : Sto} {Q : D → Sto → Prop} {QB : Bool → Sto → Prop} {x z : Str} {lo : Option Int} {n : Int} {p1 p2 p3 p4 p5 p6 p7 : Pos} {j1 : Nat}
theorem ev_geLo (i j : Nat) (h1 : ρ[i]? = some (some (endD lo))) (h2 : ρ[j]? = some (some (.int n))) (h : Q (.bl (geLo lo n)) η) (hN : y.X.N[i]? = some x := by rfl) (hM : y.X.N[j]? = some z := by rfl) (hv : Vis y.X.env.scope x := by first | exact Or.inl rfl | exact Or.inr (Or.inl rfl) | exact Or.inr (Or.inr rfl)) (hw : Vis y.X.env.scope z := by first | exact Or.inl rfl | exact Or.inr (Or.inl rfl) | exact Or.inr (Or.inr rfl))
    (b1 : (x == ("__debug__" : Str)) = false := by decide) (b2 : (x == ("__classdict__" : Str)) = false := by decide) (b3 : (z == ("__debug__" : Str)) = false := by decide) (b4 : (z == ("__classdict__" : Str)) = false := by decide) :
    EV y (.BoolOp .Or [.Compare (.Name x p1) [.Is] [.Constant .none j1 p2] p3, .Compare (.Name x p4) [.LtE] [.Name z p5] p6] p7) ρ η Q := by
  refine ev_or (ev_cmp (nomark _) (ev_var i h1 (ev_non (opw_isN ⟨_, rfl, fun e => ?_, fun e => ?_⟩)) hN hv b1 b2))
  · cases lo with
    | none => cases e
    | some l => exact ev_one (ev_cmp (nomark _) (ev_var i h1 (ev_var j h2 (opw_le h) hM hw b3 b4) hN hv b1 b2))
  · cases lo with
    | none => exact h
    | some l => cases e
theorem ev_leHi (i j : Nat) (h1 : ρ[i]? = some (some (endD lo))) (h2 : ρ[j]? = some (some (.int n))) (h : Q (.bl (leHi lo n)) η) (hN : y.X.N[i]? = some x := by rfl) (hM : y.X.N[j]? = some z := by rfl) (hv : Vis y.X.env.scope x := by first | exact Or.inl rfl | exact Or.inr (Or.inl rfl) | exact Or.inr (Or.inr rfl)) (hw : Vis y.X.env.scope z := by first | exact Or.inl rfl | exact Or.inr (Or.inl rfl) | exact Or.inr (Or.inr rfl))
    (b1 : (x == ("__debug__" : Str)) = false := by decide) (b2 : (x == ("__classdict__" : Str)) = false := by decide) (b3 : (z == ("__debug__" : Str)) = false := by decide) (b4 : (z == ("__classdict__" : Str)) = false := by decide) :
    EV y (.BoolOp .Or [.Compare (.Name x p1) [.Is] [.Constant .none j1 p2] p3, .Compare (.Name z p4) [.LtE] [.Name x p5] p6] p7) ρ η Q := by
  refine ev_or (ev_cmp (nomark _) (ev_var i h1 (ev_non (opw_isN ⟨_, rfl, fun e => ?_, fun e => ?_⟩)) hN hv b1 b2))
  · cases lo with
    | none => cases e
    | some l => exact ev_one (ev_cmp (nomark _) (ev_var j h2 (ev_var i h1 (opw_le h) hN hv b1 b2) hM hw b3 b4))
  · cases lo with
    | none => exact h
    | some l => cases e
theorem tv_geLo (i j : Nat) (h1 : ρ[i]? = some (some (endD lo))) (h2 : ρ[j]? = some (some (.int n))) (h : QB (geLo lo n) η) (hN : y.X.N[i]? = some x := by rfl) (hM : y.X.N[j]? = some z := by rfl) (hv : Vis y.X.env.scope x := by first | exact Or.inl rfl | exact Or.inr (Or.inl rfl) | exact Or.inr (Or.inr rfl)) (hw : Vis y.X.env.scope z := by first | exact Or.inl rfl | exact Or.inr (Or.inl rfl) | exact Or.inr (Or.inr rfl))
    (b1 : (x == ("__debug__" : Str)) = false := by decide) (b2 : (x == ("__classdict__" : Str)) = false := by decide) (b3 : (z == ("__debug__" : Str)) = false := by decide) (b4 : (z == ("__classdict__" : Str)) = false := by decide) :
    TV y (.BoolOp .Or [.Compare (.Name x p1) [.Is] [.Constant .none j1 p2] p3, .Compare (.Name x p4) [.LtE] [.Name z p5] p6] p7) ρ η QB := by
  refine tv_w (wv_or (T := fun b η1 => η1 = η ∧ b = lo.isNone) (tv_cmp (nomark _) (ev_var i h1 (ev_non (opw_isN ⟨_, rfl, rfl, isN_end⟩)) hN hv b1 b2)) ?_ ?_)
  · rintro η1 ⟨rfl, e⟩
    cases lo with
    | none => cases e
    | some l => exact wv_or1 (tv_cmp (nomark _) (ev_var i h1 (ev_var j h2 (opw_le ⟨_, rfl, h⟩) hM hw b3 b4) hN hv b1 b2))
  · rintro η1 ⟨rfl, e⟩
    cases lo with
    | none => exact h
    | some l => cases e
theorem tv_leHi (i j : Nat) (h1 : ρ[i]? = some (some (endD lo))) (h2 : ρ[j]? = some (some (.int n))) (h : QB (leHi lo n) η) (hN : y.X.N[i]? = some x := by rfl) (hM : y.X.N[j]? = some z := by rfl) (hv : Vis y.X.env.scope x := by first | exact Or.inl rfl | exact Or.inr (Or.inl rfl) | exact Or.inr (Or.inr rfl)) (hw : Vis y.X.env.scope z := by first | exact Or.inl rfl | exact Or.inr (Or.inl rfl) | exact Or.inr (Or.inr rfl))
    (b1 : (x == ("__debug__" : Str)) = false := by decide) (b2 : (x == ("__classdict__" : Str)) = false := by decide) (b3 : (z == ("__debug__" : Str)) = false := by decide) (b4 : (z == ("__classdict__" : Str)) = false := by decide) :
    TV y (.BoolOp .Or [.Compare (.Name x p1) [.Is] [.Constant .none j1 p2] p3, .Compare (.Name z p4) [.LtE] [.Name x p5] p6] p7) ρ η QB := by
  refine tv_w (wv_or (T := fun b η1 => η1 = η ∧ b = lo.isNone) (tv_cmp (nomark _) (ev_var i h1 (ev_non (opw_isN ⟨_, rfl, rfl, isN_end⟩)) hN hv b1 b2)) ?_ ?_)
  · rintro η1 ⟨rfl, e⟩
    cases lo with
    | none => cases e
    | some l => exact wv_or1 (tv_cmp (nomark _) (ev_var j h2 (ev_var i h1 (opw_le ⟨_, rfl, h⟩) hN hv b1 b2) hM hw b3 b4))
  · rintro η1 ⟨rfl, e⟩
    cases lo with
    | none => exact h
    | some l => cases e
end
def F_hasn : FS ({ps : List Stc // ps.length ≤ 1000} × Int) := { args := fun s => [partsD s.1.1, .int s.2], st := fun _ => [], ret := fun s d η => d = .bl (s.1.1.any (inS s.2)) ∧ η = [] }
theorem k_hasn (F : Fun K "has_number" "has_number" s_has_number f fd) (h1 : mg "any" = none) : FnOk P w K mg base CX0 1 f fd ["parts", "number"] (spOf ⟨K, MC, T⟩ F_hasn) :=
  ok_of _ F c_has_number (fun _ => rfl) fun a cdv A outer s H E hr => by
    obtain ⟨⟨ps, hl⟩, n⟩ := a
    refine svs_cons (sv_ret (ev_callB h1 boot_any (av_cons (ev_lcM (own := [("low", 2), ("high", 3)]) (.tp [2, 3]) ps stc (fun s => D.bl (inS n s)) rfl c_has_number.nd (blkOk_by (N := n_has_number) (sc := defScope s_has_number) (by decide +kernel)) (fun _ _ _ _ _ => pg_two rfl c_has_number.nd rfl rfl (Or.inl rfl) (Or.inl rfl) (Or.inr rfl) (Or.inr rfl)) (by decide)
      (iv_tup (ev_var 0 rfl ⟨_, rfl, rfl, trivial, ?_, fun x hx => ⟨rfl, fun s' H' Cc cl fp' => ?_⟩, fun L => ?_⟩))))))
    · have hl' : ps.length ≤ 1000 := hl
      rw [sizeLine_eq]
      omega
    · refine ev_and (ev_geLo (lo := x.1) 2 1 rfl rfl ⟨_, rfl, fun e => ?_, fun e => ?_⟩)
      · refine ev_one (ev_leHi (lo := x.2) 3 1 rfl rfl ⟨?_, rfl⟩)
        unfold inS
        rw [e]
        rfl
      · refine ⟨?_, rfl⟩
        unfold inS
        rw [e]
        rfl
    · have e : (ps.map fun s => D.bl (inS n s)) = (ps.map (inS n)).map D.bl := by rw [List.map_map]; rfl
      rw [e]
      refine av_nil (cw_any rfl List.mem_cons_self (lose_nil ⟨?_, rfl⟩))
      rw [List.any_map]
      rfl
end
end K85
end Sx

namespace Sx
namespace K85
open PySem PySem.Spec PyProof.Rows L2
open LamX (Tabs TabS TabB ExtN)
def touch (low b : Option Int) : Bool := match low, b with
  | some l, some h => decide (l ≤ h + 1)
  | _, _ => true
def stepJ (acc : List Stc) (s : Stc) : List Stc := match acc.getLast? with
  | none => acc ++ [s]
  | some x => if touch s.1 x.2 then acc.dropLast ++ [(x.1, hiHi x.2 s.2)] else acc ++ [s]
theorem stepJ_nil (s : Stc) : stepJ [] s = [s] := rfl
theorem stepJ_app (pre : List Stc) (x s : Stc) : stepJ (pre ++ [x]) s = if touch s.1 x.2 then pre ++ [(x.1, hiHi x.2 s.2)] else pre ++ [x] ++ [s] := by
  unfold stepJ
  rw [List.getLast?_append, List.getLast?_singleton]
  simp [List.dropLast_concat]
def sortM (xs : List Stc) : List Stc := xs.mergeSort fun u v => ltKey u.1 v.1
def joinM (xs : List Stc) : List Stc := (sortM xs).foldl stepJ []
theorem stepJ_len (acc : List Stc) (s : Stc) : (stepJ acc s).length ≤ acc.length + 1 := by
  rcases List.eq_nil_or_concat acc with rfl | ⟨pre, x, rfl⟩
  · exact Nat.le_refl _
  · rw [List.concat_eq_append, stepJ_app]
    split <;> simp
theorem foldJ_len (xs acc : List Stc) : (xs.foldl stepJ acc).length ≤ acc.length + xs.length := by
  induction xs generalizing acc with
  | nil => exact Nat.le_refl _
  | cons x xs ih =>
    have := ih (stepJ acc x)
    have := stepJ_len acc x
    rw [List.foldl_cons, List.length_cons]
    omega
theorem sort_stc (ps : List Stc) : (sortK (ps.map fun s => (s.1, endD s.2))).map stD = (sortM ps).map stc := by
  unfold sortK sortM
  rw [← List.map_mergeSort (r := fun u v => ltKey u.1 v.1) (f := fun s : Stc => (s.1, endD s.2)) (fun _ _ _ _ => rfl), List.map_map]
  rfl
theorem fold_next {xs : List Stc} {i : Nat} {x : Stc} (e : xs[i]? = some x) : stepJ ((xs.take i).foldl stepJ []) x = (xs.take (i + 1)).foldl stepJ [] := by
  rw [List.take_add_one, e, List.foldl_append]
  rfl
section
variable {y : Sy} {ρ : Rho} {η : Sto} {Q : D → Sto → Prop} {x : Str} {p1 p2 p3 p4 p5 p6 : Pos} {j1 j2 : Nat} {p : Addr} {pre : List Stc} {l : Stc}
theorem ev_lastHi (i : Nat) (h1 : ρ[i]? = some (some (.ref p))) (mem : (p, .lst ((pre ++ [l]).map stc)) ∈ η) (h : Q (endD l.2) η) (hN : y.X.N[i]? = some x := by rfl) (hv : Vis y.X.env.scope x := by first | exact Or.inl rfl | exact Or.inr (Or.inl rfl) | exact Or.inr (Or.inr rfl)) (b1 : (x == ("__debug__" : Str)) = false := by decide) (b2 : (x == ("__classdict__" : Str)) = false := by decide) :
    EV y (.Subscript (.Subscript (.Name x p1) (.UnaryOp .USub (.Constant (.int 1) j1 p2) p3) p4) (.Constant (.int 1) j2 p5) p6) ρ η Q :=
  ev_ix (fun _ _ => rfl) (ev_ix (fun _ _ => rfl) (ev_var i h1 (ev_un (ev_int (unw_neg (xw_list mem (by rw [List.map_append]; exact atI_last _ _) (ev_int (xw_tup (d := endD l.2) (by rfl) h)))))) hN hv b1 b2))
theorem ev_lastLo (i : Nat) (h1 : ρ[i]? = some (some (.ref p))) (mem : (p, .lst ((pre ++ [l]).map stc)) ∈ η) (h : Q (endD l.1) η) (hN : y.X.N[i]? = some x := by rfl) (hv : Vis y.X.env.scope x := by first | exact Or.inl rfl | exact Or.inr (Or.inl rfl) | exact Or.inr (Or.inr rfl)) (b1 : (x == ("__debug__" : Str)) = false := by decide) (b2 : (x == ("__classdict__" : Str)) = false := by decide) :
    EV y (.Subscript (.Subscript (.Name x p1) (.UnaryOp .USub (.Constant (.int 1) j1 p2) p3) p4) (.Constant (.int 0) j2 p5) p6) ρ η Q :=
  ev_ix (fun _ _ => rfl) (ev_ix (fun _ _ => rfl) (ev_var i h1 (ev_un (ev_int (unw_neg (xw_list mem (by rw [List.map_append]; exact atI_last _ _) (ev_int (xw_tup (d := endD l.1) (by rfl) h)))))) hN hv b1 b2))
end
section
variable {P : Program} {w : World} {K : PySem.W.Frag} {mg : Str → Option Value} {base : Heap} {MC : Addr → Prop} {f c tb : Addr} {fd : FuncData}
/-- a list at a, or a tuple -/
def F_joined : FS ({ps : List Stc // ps.length ≤ 1000} × Option Addr) := { args := fun s => [match s.2 with | none => partsD s.1.1 | some a => .ref a], st := fun s => match s.2 with | none => [] | some a => [(a, .lst (s.1.1.map stc))], ret := fun s d η => d = partsD (joinM s.1.1) ∧ η = [] }
abbrev TJ (tb : Addr) : List (Addr × Str) := [(tb, "joined.<locals>.<lambda>")]
theorem pd_lst {η : Sto} {a : Addr} {ps : List Stc} (h : (a, .lst (ps.map stc)) ∈ η) : PdAt η (.ref a) (.list (ps.map pairP)) := .lst h (pd_map pd_stc ps)
theorem shaped_lst (ps : List Stc) : SeqAt.shaped (.list (ps.map pairP)) = true := shapedL (n := 1) (fun _ => pairP_lay) (fun _ => Nat.le_of_eq pairP_depth) (by decide) ps
theorem k_joined (F : FunC K "joined" "joined" s_joined f c fd) (TB : TabB base mg c tb) (G : Cal P w K mg base 1 "higher_high" ["one", "other"] (spOf ⟨K, MC, TJ tb⟩ F_hihi)) (h1 : mg "sorted" = none) (h2 : mg "tuple" = none) :
    FnOk P w K mg base CX0 3 f fd ["stretches"] (spOf ⟨K, MC, TJ tb⟩ F_joined) :=
  ok_ofC _ F c_joined (fun _ => rfl) fun a A outer s H E hr => by
    obtain ⟨⟨ps, hlen⟩, o⟩ := a
    have hr1 : Room 1 _ := hr.mono (by decide)
    refine svs_cons (sv_asg 1 (ev_lst (av_nil ⟨Nat.zero_le _, fun p => ?_⟩)) c_joined.nd)
    refine svs_cons (sv_forI (.tp [2, 3]) PassesOwn.never rfl (pg_two rfl c_joined.nd rfl rfl (Or.inl rfl) (Or.inl rfl) (Or.inl rfl) (Or.inl rfl)) (iv_list (EV.mono (Q := fun d η => ∃ q ηo, d = .ref q ∧ η = (q, .lst ((sortM ps).map stc)) :: (p, .lst []) :: ηo) ?_ ?_)))
    · cases o with
      | some a =>
        refine ev_sortKey TB rfl (by exact List.mem_singleton.mpr rfl) (fun p hp _ => by rw [List.mem_singleton.mp hp]; rfl) hr1 h1 (ev_var 0 rfl ⟨a, ps.map fun s => (s.1, endD s.2), rfl, ?_, fun q => ⟨q, F_joined.st (⟨ps, hlen⟩, some a), rfl, ?_⟩⟩)
        · rw [List.map_map]
          exact List.mem_cons_of_mem _ List.mem_cons_self
        · rw [sort_stc]
      | none =>
        refine ev_sortKeyT TB rfl (by exact List.mem_singleton.mpr rfl) (fun p hp _ => by rw [List.mem_singleton.mp hp]; rfl) hr1 h1 (ev_var 0 rfl ⟨ps.map fun s => (s.1, endD s.2), ?_, fun q => ⟨q, [], rfl, ?_⟩⟩)
        · rw [List.map_map]
          rfl
        · rw [sort_stc]
          rfl
    · rintro d η ⟨q, ηo, rfl, rfl⟩
      refine ⟨q, _, rfl, List.mem_cons_self, fun i ρ' η' => ∃ v2 v3, ρ' = [some (match o with | none => partsD ps | some a => .ref a), some (.ref p), v2, v3] ∧ η' = (q, .lst ((sortM ps).map stc)) :: (p, .lst ((((sortM ps).take i).foldl stepJ []).map stc)) :: ηo, ?_, ⟨none, none, rfl, rfl⟩, ?_, ?_⟩
      · rintro i ρ' η' ⟨v2, v3, rfl, rfl⟩
        exact List.mem_cons_self
      · rintro i d ρ' η' e ⟨v2, v3, rfl, rfl⟩
        rw [List.getElem?_map, Option.map_eq_some_iff] at e
        obtain ⟨x, e, rfl⟩ := e
        refine ⟨rfl, ?_⟩
        have hu := un64 hr
        have nx := fold_next e
        have al : (((sortM ps).take i).foldl stepJ []).length ≤ 1000 := by
          have h1 := foldJ_len ((sortM ps).take i) []
          have h2 : (sortM ps).length = ps.length := List.length_mergeSort _
          rw [List.length_take, List.length_nil] at h1
          have h3 : ps.length ≤ 1000 := hlen
          omega
        have two : 2 ≤ sizeLine := by rw [sizeLine_eq]; decide
        revert nx al
        generalize ((sortM ps).take i).foldl stepJ [] = acc
        intro nx al
        rcases List.eq_nil_or_concat acc with rfl | ⟨pre, l, rfl⟩
        · refine svs_cons (sv_if (T := fun b η1 => ((q, Mo.lst ((sortM ps).map stc)) :: (p, Mo.lst (([] : List Stc).map stc)) :: ηo).Sublist η1 ∧ b = false) (tv_w (wv_and (T := fun b η1 => ((q, Mo.lst ((sortM ps).map stc)) :: (p, Mo.lst (([] : List Stc).map stc)) :: ηo).Sublist η1 ∧ b = false)
            (tv_cmp (nomark _) (ev_var 1 rfl (ev_lst (av_nil ⟨Nat.zero_le _, fun r => opw_neD hu (pd_lst (ps := []) (List.mem_cons_of_mem _ (List.mem_cons_of_mem _ List.mem_cons_self))) (pd_lst (ps := []) List.mem_cons_self) (shaped_lst []) (shaped_lst []) ⟨_, rfl, List.sublist_cons_self _ _, ?_⟩⟩)))) ?_ ?_)) ?_ ?_)
          · rw [eqvL pairP_eqv]
            rfl
          · rintro η1 ⟨_, z⟩
            cases z
          · rintro η1 z
            exact z
          · rintro η1 ⟨_, z⟩
            cases z
          · rintro η1 ⟨sl, _⟩
            refine SVs.drop sl (SVs.nd fun nd => svs_cons (sv_expr (ev_append (ev_var 1 rfl ⟨.inl ⟨rfl, _, List.mem_cons_of_mem _ List.mem_cons_self⟩, av_cons (ev_tup (av_cons (ev_var (d := endD x.1) 2 rfl (av_cons (ev_var (d := endD x.2) 3 rfl (av_nil ⟨two, av_nil (mw_append (List.mem_cons_of_mem _ List.mem_cons_self) ?_ (svs_nil (svs_nil ⟨_, _, rfl, ?_⟩)))⟩))))))⟩))))
            · rw [sizeLine_eq]
              show 0 < _
              decide
            · rw [putM_2 nd, ← nx]
              rfl
        · rw [List.concat_eq_append] at nx al ⊢
          have mem : ∀ {η1 : Sto}, ((q, Mo.lst ((sortM ps).map stc)) :: (p, Mo.lst ((pre ++ [l]).map stc)) :: ηo).Sublist η1 → (p, Mo.lst ((pre ++ [l]).map stc)) ∈ η1 := fun s => s.subset (List.mem_cons_of_mem _ List.mem_cons_self)
          have at1 : atI ((pre ++ [l]).map stc) (-1) = some (stc l) := by rw [List.map_append]; exact atI_last _ _
          refine svs_cons (sv_if (T := fun b η1 => ((q, Mo.lst ((sortM ps).map stc)) :: (p, Mo.lst ((pre ++ [l]).map stc)) :: ηo).Sublist η1 ∧ b = touch x.1 l.2) (tv_w (wv_and (T := fun b η1 => ((q, Mo.lst ((sortM ps).map stc)) :: (p, Mo.lst ((pre ++ [l]).map stc)) :: ηo).Sublist η1 ∧ b = true)
            (tv_cmp (nomark _) (ev_var 1 rfl (ev_lst (av_nil ⟨Nat.zero_le _, fun r => opw_neD hu (pd_lst (ps := pre ++ [l]) (List.mem_cons_of_mem _ (List.mem_cons_of_mem _ List.mem_cons_self))) (pd_lst (ps := []) List.mem_cons_self) (shaped_lst _) (shaped_lst []) ⟨_, rfl, List.sublist_cons_self _ _, ?_⟩⟩)))) ?_ ?_)) ?_ ?_)
          · rw [show PyData.eqv (.list ((pre ++ [l]).map pairP)) (.list (([] : List Stc).map pairP)) = decide (pre ++ [l] = []) from eqvL pairP_eqv _ _, decide_eq_false (by simp)]
            rfl
          · rintro η1 ⟨sl, _⟩
            refine wv_and1 (tv_w (wv_or (T := fun b η2 => ((q, Mo.lst ((sortM ps).map stc)) :: (p, Mo.lst ((pre ++ [l]).map stc)) :: ηo).Sublist η2 ∧ b = x.1.isNone) (tv_cmp (nomark _) (ev_var (d := endD x.1) 2 rfl (ev_non (opw_isN ⟨_, rfl, sl, isN_end⟩)))) ?_ ?_))
            · rintro η2 ⟨sl2, e2⟩
              refine wv_or (T := fun b η2 => ((q, Mo.lst ((sortM ps).map stc)) :: (p, Mo.lst ((pre ++ [l]).map stc)) :: ηo).Sublist η2 ∧ b = l.2.isNone) (tv_cmp (nomark _) (ev_lastHi 1 rfl (mem sl2) (ev_non (opw_isN ⟨_, rfl, sl2, isN_end⟩)))) ?_ ?_
              · rintro η3 ⟨sl3, e3⟩
                obtain ⟨x1, x2⟩ := x
                obtain ⟨l1, l2⟩ := l
                cases x1 with
                | none => cases e2
                | some xi =>
                  cases l2 with
                  | none => cases e3
                  | some li =>
                    exact wv_or1 (tv_cmp (nomark _) (ev_var 2 rfl (ev_bin (ev_lastHi 1 rfl (mem sl3) (ev_int (opw_add (opw_le ⟨_, rfl, sl3, rfl⟩)))))))
              · rintro η3 ⟨sl3, e3⟩
                refine ⟨sl3, ?_⟩
                obtain ⟨x1, x2⟩ := x
                obtain ⟨l1, l2⟩ := l
                cases l2 with
                | none => cases x1 <;> rfl
                | some li => cases e3
            · rintro η2 ⟨sl2, e2⟩
              refine ⟨sl2, ?_⟩
              obtain ⟨x1, x2⟩ := x
              cases x1 with
              | none => rfl
              | some xi => cases e2
          · rintro η1 ⟨_, z⟩
            cases z
          · rintro η1 ⟨sl, tc⟩
            have mm : (p, Mo.lst ((pre ++ [l]).map stc)) ∈ (q, Mo.lst ((sortM ps).map stc)) :: (p, Mo.lst ((pre ++ [l]).map stc)) :: ηo := List.mem_cons_of_mem _ List.mem_cons_self
            refine SVs.drop sl (SVs.nd fun nd => svs_cons (sv_setItem (ev_tup (av_cons (ev_lastLo 1 rfl mm (av_cons (ev_cal0 G hr1 (av_cons (ev_lastHi 1 rfl mm (av_cons (ev_var (d := endD x.2) 3 rfl (av_nil ⟨(l.2, x.2), rfl, rfl, ?_, fun _ _ _ _ z => z⟩)))))))))))) 
            rintro d η' ⟨rfl, rfl⟩
            refine av_nil ⟨two, ev_var 1 rfl (ev_un (ev_int (unw_neg (sw_list (List.mem_cons_of_mem _ List.mem_cons_self) (by rw [List.length_map, List.length_append]; exact ixN_last _) (svs_nil (svs_nil ⟨_, _, rfl, ?_⟩))))))⟩
            rw [putM_2 nd, ← nx, stepJ_app, ← tc, if_pos rfl, List.map_append, List.map_append]
            simp [stc]
          · rintro η1 ⟨sl, tc⟩
            refine SVs.drop sl (SVs.nd fun nd => svs_cons (sv_expr (ev_append (ev_var 1 rfl ⟨.inl ⟨rfl, _, List.mem_cons_of_mem _ List.mem_cons_self⟩, av_cons (ev_tup (av_cons (ev_var (d := endD x.1) 2 rfl (av_cons (ev_var (d := endD x.2) 3 rfl (av_nil ⟨two, av_nil (mw_append (List.mem_cons_of_mem _ List.mem_cons_self) ?_ (svs_nil (svs_nil ⟨_, _, rfl, ?_⟩)))⟩))))))⟩))))
            · rw [sizeLine_eq, List.length_map]
              omega
            · rw [putM_2 nd, ← nx, stepJ_app, ← tc, if_neg Bool.false_ne_true]
              simp [stc]
      · rintro ρ' η' ⟨v2, v3, rfl, rfl⟩
        rw [List.length_map, List.take_length]
        refine svs_cons (sv_ret (ev_callT h2 PySem.Pv.boot_tuple (av_cons (ev_var 1 rfl (av_nil (cw_tupL (List.mem_cons_of_mem _ List.mem_cons_self) (lose_nil ⟨rfl, rfl⟩)))))))
end
end K85
end Sx

namespace Sx
namespace K85
open PySem PySem.Spec PyProof.Rows L2
open LamX (Tabs TabS TabB ExtN)
theorem plains_map {α : Type} {g : α → D} (h : ∀ a, (g a).plain = true) : ∀ xs : List α, D.plains (xs.map g) = true
  | [] => by simp [D.plains]
  | x :: xs => by simp [D.plains, h x, plains_map h xs]
theorem plain_end (o : Option Int) : (endD o).plain = true := by cases o <;> simp [endD, D.plain]
theorem plain_stc (s : Stc) : (stc s).plain = true := by simp [stc, D.plain, D.plains, plain_end]
section
variable {P : Program} {w : World} {K : PySem.W.Frag} {mg : Str → Option Value} {base : Heap} {MC : Addr → Prop} {f fI c C tb : Addr} {fd fdI : FuncData}
def I_rng : IS ({ps : List Stc // ps.length ≤ 1000} × Option Addr) := { args := F_joined.args, st := F_joined.st, fs := fun s => [("parts", partsD (joinM s.1.1))] }
theorem k_rinit (F : Fun K "__init__" "Ranges.__init__" s_Rangesu_initu f fd) (G : Cal P w K mg base 3 "joined" ["stretches"] (spOf ⟨K, fun c => c = C ∨ MC c, TJ tb⟩ F_joined)) (hc : Cls K C) (hn : NoAttr K C "parts") :
    FnOk P w K mg base CX0 4 f fd ["self", "stretches"] (spInit ⟨K, MC, TJ tb⟩ C I_rng) :=
  ok_init I_rng F c_Rangesu_initu (fun _ => rfl) (fun a => .inr (by
    obtain ⟨ps, o⟩ := a
    cases o with
    | none => exact ⟨by simp [I_rng, F_joined, D.plains, partsD, D.plain, plains_map plain_stc], fun _ _ z => absurd z List.not_mem_nil, rfl⟩
    | some a => exact ⟨by simp [I_rng, F_joined, D.plains, D.plain], fun p m z => by
        have z' : (p, m) ∈ [(a, Mo.lst (ps.1.map stc))] := z
        rw [List.mem_singleton] at z'
        cases z'
        exact plains_map plain_stc _, rfl⟩)) fun a cdv A outer s H E z hr => by
    refine svs_cons (sv_fld (ev_cal G hr (av_cons (ev_var 1 rfl (av_nil ⟨a, [(z, .obj C [])], rfl, List.perm_append_comm (l₁ := [(z, Mo.obj C [])]), ?_, fun _ _ _ _ z => z.elim⟩)))))
    rintro d η' ⟨rfl, rfl⟩
    refine ev_var 0 rfl ⟨z, C, [], rfl, List.mem_cons_self, hc, hn, by show 0 < 1000; decide, svs_nil ?_⟩
    refine lose_id ?_
    show putM z _ ((z, Mo.obj C []) :: []) = _
    rw [putM_here]
    rfl
/-! between, empty -/
def btw (s : Stc) : List Stc := if isE s.1 s.2 then [] else [s]
def F_between (C : Addr) : FS Stc := { args := fun s => [.ref C, endD s.1, endD s.2], st := fun _ => [], ret := fun s d η => d = rng C (joinM (btw s)) ∧ η = [] }
theorem k_between (F : Fun K "between" "Ranges.between" s_Ranges_between f fd) (M : Mk K C fI) (KI : FnOk P w K mg base CX0 4 fI fdI ["self", "stretches"] (spInit ⟨K, MC, TJ tb⟩ C I_rng)) (bI : Binds K fdI ["self", "stretches"] []) (hm : ¬ MC C)
    (G : Cal P w K mg base 1 "is_empty" ["low", "high"] (spOf ⟨K, MC, TJ tb⟩ F_isE)) : FnOk P w K mg base CX0 6 f fd ["cls", "low", "high"] (spOf ⟨K, MC, TJ tb⟩ (F_between C)) :=
  ok_of _ F c_Ranges_between (fun _ => rfl) fun a cdv A outer s H E hr => by
    obtain ⟨lo, hi⟩ := a
    have hr1 : Room 1 _ := hr.mono (by decide)
    refine svs_cons (sv_ret (ev_mkL 0 M KI hr rfl bI (av_cons (ev_ifExp (T := fun b η => b = isE lo hi ∧ η = []) (tv_val (ev_cal0 G hr1 (av_cons (ev_var 1 rfl (av_cons (ev_var 2 rfl (av_nil ⟨(lo, hi), rfl, rfl, ?_, fun _ _ _ _ z => z⟩))))))) ?_ ?_))))
    · rintro d η' ⟨rfl, rfl⟩
      exact ⟨_, rfl, rfl, rfl⟩
    · rintro η ⟨e, rfl⟩
      refine ev_lst (av_nil ⟨Nat.zero_le _, fun p => av_nil ⟨(⟨[], Nat.zero_le _⟩, some p), [], rfl, List.Perm.refl _, fun _ => lose_nil ⟨?_, rfl⟩, fun z => (hm z).elim⟩⟩)
      unfold btw
      rw [if_pos e.symm]
      rfl
    · rintro η ⟨e, rfl⟩
      refine ev_lst (av_cons (ev_tup (av_cons (ev_var 1 rfl (av_cons (ev_var 2 rfl (av_nil ⟨by show 2 ≤ sizeLine; rw [sizeLine_eq]; decide, av_nil ⟨by show 1 ≤ sizeLine; rw [sizeLine_eq]; decide, fun p => av_nil ⟨(⟨[(lo, hi)], by show 1 ≤ 1000; decide⟩, some p), [], rfl, List.Perm.refl _, fun _ => lose_nil ⟨?_, rfl⟩, fun z => (hm z).elim⟩⟩⟩)))))))
      unfold btw
      rw [if_neg (by rw [← e]; exact Bool.false_ne_true)]
      rfl
def F_empty (C : Addr) : FS Unit := { args := fun _ => [.ref C], st := fun _ => [], ret := fun s d η => d = rng C (joinM []) ∧ η = [] }
theorem k_empty (F : Fun K "empty" "Ranges.empty" s_Ranges_empty f fd) (M : Mk K C fI) (KI : FnOk P w K mg base CX0 4 fI fdI ["self", "stretches"] (spInit ⟨K, MC, TJ tb⟩ C I_rng)) (bI : Binds K fdI ["self", "stretches"] []) (hm : ¬ MC C) : FnOk P w K mg base CX0 6 f fd ["cls"] (spOf ⟨K, MC, TJ tb⟩ (F_empty C)) :=
  ok_of _ F c_Ranges_empty (fun _ => rfl) fun a cdv A outer s H E hr => by
    exact svs_cons (sv_ret (ev_mkL 0 M KI hr rfl bI (av_cons (ev_lst (av_nil ⟨Nat.zero_le _, fun p => av_nil ⟨(⟨[], Nat.zero_le _⟩, some p), [], rfl, List.Perm.refl _, fun _ => lose_nil ⟨rfl, rfl⟩, fun z => (hm z).elim⟩⟩)))))
/-! operators -/
def F_or (C : Addr) : FS {s : List Stc × List Stc // s.1.length + s.2.length ≤ 1000} := { args := fun s => [rng C s.1.1, rng C s.1.2], st := fun _ => [], ret := fun s d η => d = rng C (joinM (s.1.1 ++ s.1.2)) ∧ η = [] }
theorem k_or (F : Fun K "__or__" "Ranges.__or__" s_Rangesu_oru f fd) (M : Mk K C fI) (KI : FnOk P w K mg base CX0 4 fI fdI ["self", "stretches"] (spInit ⟨K, MC, TJ tb⟩ C I_rng)) (bI : Binds K fdI ["self", "stretches"] []) (hm : ¬ MC C)
    (hc : Cls K C) (hn : NoAttr K C "parts") (mC : mg "Ranges" = some (.ref C)) : FnOk P w K mg base CX0 6 f fd ["self", "other"] (spOf ⟨K, MC, TJ tb⟩ (F_or C)) :=
  ok_of _ F c_Rangesu_oru (fun _ => rfl) fun a cdv A outer s H E hr => by
    obtain ⟨⟨a, b⟩, hl⟩ := a
    have hl' : a.length + b.length ≤ 1000 := hl
    refine svs_cons (sv_ret (ev_mk M KI hr mC bI (av_cons (ev_bin (ev_fld (ev_var 0 rfl ⟨C, _, partsD a, rfl, hc, hn, rfl, ev_fld (ev_var 1 rfl ⟨C, _, partsD b, rfl, hc, hn, rfl, opw_catA ?_ (av_nil ⟨(⟨a ++ b, ?_⟩, none), [], ?_, List.Perm.refl _, fun _ => lose_nil ⟨rfl, rfl⟩, fun z => (hm z).elim⟩)⟩)⟩)))))) 
    · rw [List.length_map, List.length_map, sizeLine_eq]
      omega
    · rw [List.length_append]
      exact hl'
    · show [D.tup (a.map stc ++ b.map stc)] = [D.tup ((a ++ b).map stc)]
      rw [List.map_append]
def F_eq (C : Addr) : FS (List Stc × List Stc) := { args := fun s => [rng C s.1, rng C s.2], st := fun _ => [], ret := fun s d η => d = .bl (decide (s.1 = s.2)) ∧ η = [] }
theorem k_eq (F : Fun K "__eq__" "Ranges.__eq__" s_Rangesu_equ f fd) (hc : Cls K C) (hn : NoAttr K C "parts") (mC : mg "Ranges" = some (.ref C)) (mi : mg "isinstance" = none) (oc : OfCls K C) (hk : PySem.W.kitOne K (.ref C) (.ref C) = some true) :
    FnOk P w K mg base CX0 1 f fd ["self", "other"] (spOf ⟨K, MC, TJ tb⟩ (F_eq C)) :=
  ok_of _ F c_Rangesu_equ (fun _ => rfl) fun a cdv A outer s H E hr => by
    obtain ⟨a, b⟩ := a
    refine svs_cons (sv_ret (ev_and (ev_callB mi boot_isinstance (av_cons (ev_var 1 rfl (av_cons (ev_glob (v := .ref C) (d := .ref C) mC rfl (fun _ => at_ref.mpr rfl) (av_nil (cw_isi (.ins _ oc) (.own C) hk ⟨true, rfl, fun _ => ?_, fun z => nomatch z⟩)))))))))
    refine ev_one (ev_cmp (nomark _) (ev_fld (ev_var 0 rfl ⟨C, _, partsD a, rfl, hc, hn, rfl, ev_fld (ev_var 1 rfl ⟨C, _, partsD b, rfl, hc, hn, rfl, opw_eqD (un64 hr) (pd_parts a) (pd_parts b) (shaped_parts a) (shaped_parts b) (lose_nil ⟨?_, rfl⟩)⟩)⟩)))
    rw [eqvT pairP_eqv]
def F_in (C : Addr) : FS ({ps : List Stc // ps.length ≤ 1000} × Int) := { args := fun s => [rng C s.1.1, .int s.2], st := fun _ => [], ret := fun s d η => d = .bl (s.1.1.any (inS s.2)) ∧ η = [] }
theorem k_in (F : Fun K "__contains__" "Ranges.__contains__" s_Rangesu_containsu f fd) (hc : Cls K C) (hn : NoAttr K C "parts") (G1 : Cal P w K mg base 1 "is_integer" ["value"] (spOf ⟨K, MC, TJ tb⟩ F_isint)) (G2 : Cal P w K mg base 1 "has_number" ["parts", "number"] (spOf ⟨K, MC, TJ tb⟩ F_hasn)) :
    FnOk P w K mg base CX0 2 f fd ["self", "value"] (spOf ⟨K, MC, TJ tb⟩ (F_in C)) :=
  ok_of _ F c_Rangesu_containsu (fun _ => rfl) fun a cdv A outer s H E hr => by
    obtain ⟨ps, n⟩ := a
    refine svs_cons (sv_ret (ev_and (ev_cal0 G1 hr (av_cons (ev_var 1 rfl (av_nil ⟨n, rfl, rfl, ?_, fun _ _ _ _ z => z⟩))))))
    rintro d η' ⟨rfl, rfl⟩
    refine ⟨true, rfl, fun _ => ?_, fun z => nomatch z⟩
    refine ev_one (ev_cal0 G2 hr (av_cons (ev_fld (ev_var 0 rfl ⟨C, _, partsD ps.1, rfl, hc, hn, rfl, av_cons (ev_var 1 rfl (av_nil ⟨(ps, n), rfl, rfl, ?_, fun _ _ _ _ z => z⟩))⟩))))
    rintro d η' ⟨rfl, rfl⟩
    exact lose_nil ⟨rfl, rfl⟩
end
end K85
end Sx

namespace Sx
namespace K85
open PySem PySem.Spec PyProof.Rows L2 TL
open LamX (Tabs TabS TabB ExtN)
/-! integer_in, of a number's own text -/
def ok12 (o : Option Int) : Prop := ∀ i, o = some i → i.natAbs < 10 ^ 12
theorem ok12.b {o : Option Int} (h : ok12 o) : okB o := fun i e => by have := h i e; omega
theorem len_abs {n : Int} (h : n.natAbs < 10 ^ 12) : 1 ≤ (intS (n.natAbs : Int)).length ∧ (intS (n.natAbs : Int)).length ≤ 12 := by
  rw [len_tl, tl_abs]
  have h1 := numL_len (k := 12) (by decide) h
  have h2 : (numL n.natAbs).length ≠ 0 := fun e => numL_ne _ (List.length_eq_zero_iff.mp e)
  omega
theorem figs : (("0123456789") : Str).cps.toList = [48, 49, 50, 51, 52, 53, 54, 55, 56, 57] := by decide
theorem head_abs (n : Int) : ∃ c cs, tl (intS (n.natAbs : Int)) = c :: cs ∧ (c = 48 → n = 0) := by
  rw [tl_abs]
  cases e : numL n.natAbs with
  | nil => exact absurd e (numL_ne _)
  | cons c cs => exact ⟨c, cs, rfl, fun h => by
      subst h
      have := numL_zero e
      omega⟩
theorem sign_eq (c d : Nat) : ((⟨#[c]⟩ : Str) = (⟨#[d]⟩ : Str)) ↔ c = d := by
  constructor
  · intro h
    injection h with h
    simpa using h
  · intro h
    rw [h]
section
variable {P : Program} {w : World} {K : PySem.W.Frag} {mg : Str → Option Value} {base : Heap} {MC : Addr → Prop} {T : List (Addr × Str)} {f C : Addr} {fd : FuncData}
def F_intin : FS {n : Int // n.natAbs < 10 ^ 12} := { args := fun n => [.str (intS n.1), .int 12], st := fun _ => [], ret := fun n d η => d = .int n.1 ∧ η = [] }
theorem k_intin (F : FunV K "integer_in" "integer_in" s_integer_in f fd) (h1 : mg "len" = none) (h2 : mg "int" = none) (hf : ∃ t, mg "FIGURES" = some (.str "0123456789" t)) : FnOk P w K mg base CX0 1 f fd ["word", "most"] (spOf ⟨K, MC, T⟩ F_intin) :=
  ok_ofV _ F c_integer_in (fun _ => rfl) fun a cdv A outer s H E hr => by
    obtain ⟨n, hn⟩ := a
    obtain ⟨tk, hf⟩ := hf
    have hn13 : n.natAbs < 10 ^ 13 := by omega
    obtain ⟨l1, l12⟩ := len_abs hn
    have big : ∀ {k : Nat}, k ≤ 100 → k ≤ sizeLine := fun h => by rw [sizeLine_eq]; omega
    have lw := intS_len hn13
    have big1 : (intS n).length ≤ sizeLine := big (by omega)
    have big2 : (intS (n.natAbs : Int)).length ≤ sizeLine := big (by omega)
    -- if word is None
    refine svs_cons (sv_if (T := fun b η => η = [] ∧ b = false) (tv_cmp (nomark _) (ev_var 0 rfl (ev_non (opw_isN ⟨_, rfl, rfl, rfl⟩)))) (fun _ z => nomatch z.2) ?_)
    rintro η ⟨rfl, _⟩
    -- figures = word.removeprefix('-')
    refine svs_nil (svs_cons (sv_asg 2 (ev_removeprefix (ev_var 0 rfl ⟨rfl, av_cons (ev_str (av_nil (mw_removeprefix big1 ?_)))⟩)) c_integer_in.nd))
    rw [rp_int]
    -- the test
    refine svs_cons (sv_if (T := fun b η => η = [] ∧ b = false) (tv_w (wv_or (T := fun b η => η = [] ∧ b = false) (tv_not (tv_chain ?_)) ?_ ?_)) (fun _ z => nomatch z.2) ?_)
    · refine ev_int ?_
      refine ev_callB h1 boot_len (av_cons ?_)
      refine ev_var 2 rfl (av_nil (cw_lenS big2 ?_))
      refine opw_le ⟨_, rfl, fun _ => ?_, ?_⟩
      · refine ev_var 1 rfl (opw_le ⟨_, rfl, rfl, ?_⟩)
        have : decide (((intS (n.natAbs : Int)).length : Int) ≤ 12) = true := decide_eq_true (by omega)
        rw [this]
        rfl
      · intro z
        have : decide ((1 : Int) ≤ ((intS (n.natAbs : Int)).length : Int)) = true := decide_eq_true (by omega)
        rw [this] at z
        cases z
    · rintro η ⟨rfl, _⟩
      obtain ⟨c, cs, ec, h0⟩ := head_abs n
      refine wv_or1 (tv_w (wv_and (T := fun b η => η = [] ∧ (b = true → n = 0)) (tv_cmp (nomark _) (ev_ix (fun _ _ => rfl) (ev_var 2 rfl (ev_int (xw_str (c := c) big2 ?_ (ev_str (opw_eqS ⟨_, rfl, rfl, fun z => ?_⟩))))))) ?_ ?_))
      · show atI (tl (intS (n.natAbs : Int))) 0 = some c
        rw [ec]
        exact atI_pos (i := 0) rfl
      · have e48 : (("0") : Str) = ⟨#[48]⟩ := by decide
        rw [e48] at z
        exact h0 ((sign_eq _ _).mp (of_decide_eq_true z))
      · rintro η ⟨rfl, hz⟩
        have n0 := hz rfl
        subst n0
        refine wv_and1 (tv_cmp (nomark _) (ev_var 0 rfl (ev_str (opw_neS ⟨_, rfl, rfl, ?_⟩))))
        have : intS 0 = ("0" : Str) := by decide
        rw [this]
        simp
      · rintro η ⟨rfl, _⟩
        exact ⟨rfl, rfl⟩
    · rintro η ⟨_, z⟩
      cases z
    · rintro η ⟨rfl, _⟩
      -- for figure in figures
      refine svs_nil (svs_cons (sv_forI (.nm 3) PassesOwn.never rfl (pg_name c_integer_in.nd rfl (Or.inl rfl)) (iv_str (ev_var 2 rfl ⟨_, rfl, fun i ρ' η' => η' = [] ∧ ∃ v3, ρ' = [some (.str (intS n)), some (.int 12), some (.str (intS (n.natAbs : Int))), v3], fun _ _ _ _ => trivial, ⟨rfl, none, rfl⟩, ?_, ?_⟩))))
      · rintro i d ρ' η' e ⟨rfl, v3, rfl⟩
        refine ⟨trivial, ?_⟩
        unfold strsL at e
        rw [List.getElem?_map, Option.map_eq_some_iff] at e
        obtain ⟨c, e, rfl⟩ := e
        have hc : c ∈ numL n.natAbs := by
          have : c ∈ tl (intS (n.natAbs : Int)) := List.mem_of_getElem? e
          rwa [tl_abs] at this
        have hd := numL_digits _ c hc
        refine svs_cons (sv_if (T := fun b η => η = [] ∧ b = false) (tv_cmp rfl ?_) (fun _ z => nomatch z.2) ?_)
        · refine ev_var (d := .str ⟨#[c]⟩) 3 rfl (ev_glob (v := .str "0123456789") (d := .str "0123456789") hf ⟨_, rfl⟩ (fun _ => at_str.mpr rfl) (opw_ninC ⟨_, rfl, rfl, ?_⟩))
          rw [figs, decide_eq_true (by simp; omega)]
          rfl
        · rintro η ⟨rfl, _⟩
          exact svs_nil (svs_nil ⟨rfl, _, rfl⟩)
      · rintro ρ' η' ⟨rfl, v3, rfl⟩
        refine svs_cons (sv_ret (ev_callT h2 PySem.Pv.boot_int (av_cons (ev_var 0 rfl (av_nil (cw_intS (int_read hn13) (by omega) (lose_nil ⟨rfl, rfl⟩)))))))
end
end K85
end Sx

namespace Sx
namespace K85
open PySem PySem.Spec PyProof.Rows L2 TL
open LamX (Tabs TabS TabB ExtN)
def clean (x : Str) : Prop := 10 ∉ tl x ∧ 32 ∉ tl x ∧ x.length ≤ 100000
theorem split_one {x y : Str} {s : Nat} {S : List Nat} (ey : tl y = s :: S) (hk : y.cps.all (· < 256) = true) (h : s ∉ tl x) : Txt.split x y = [x] := by
  have e : Txt.join y [x] = x := by rw [join_eq]; rfl
  have := TL.split_join ey hk (parts := [x]) (by simp) (fun p hp => by rw [List.mem_singleton] at hp; rw [hp]; exact h)
  rwa [e] at this
/-- what the walk asks of the class Words -/
structure WCls (K : PySem.W.Frag) (C : Addr) : Prop where
  cl : Cls K C
  n1 : NoAttr K C "line"
  n2 : NoAttr K C "words"
  n3 : NoAttr K C "at"
  n4 : NoAttr K C "end"
/-- a Words at z: its list at l, the words, line, at, end -/
structure Wst where
  z : Addr
  l : Addr
  ws : List Str
  ln : Nat
  i : Nat
  n : Nat
def wob (C l : Addr) (ln i n : Nat) : Mo := .obj C [("line", .int (ln : Nat)), ("words", .ref l), ("at", .int (i : Nat)), ("end", .int (n : Nat))]
def Wst.st (C : Addr) (s : Wst) : Sto := [(s.z, wob C s.l s.ln s.i s.n), (s.l, .lst (s.ws.map D.str))]
def Wst.cur (s : Wst) : Option Str := if s.i < s.n then s.ws[s.i]? else none
def Wst.nxt (s : Wst) : Wst := { s with i := s.i + 1 }
structure Wst.ok (s : Wst) : Prop where
  le : s.n ≤ s.ws.length
  sz : s.ws.length ≤ 100000
theorem Wst.ok.nxt {s : Wst} (h : s.ok) : s.nxt.ok := ⟨h.le, h.sz⟩
theorem cur_some {s : Wst} {x : Str} (h : s.cur = some x) : s.i < s.n ∧ s.ws[s.i]? = some x := by
  unfold Wst.cur at h
  split at h
  · exact ⟨by assumption, h⟩
  · cases h
/-! names -/
def letters : Str := "abcdefghijklmnopqrstuvwxyz"
def isName (x : Str) : Bool := decide (1 ≤ x.length) && (decide (x.length ≤ 8) && x.cps.toList.all fun c => decide (c ∈ letters.cps.toList))
def nameIn (o : Option Str) : Option Str := match o with
  | none => none
  | some x => if isName x then some x else none
theorem nameIn_no {x : Str} (h : isName x = false) : D.non = sD (nameIn (some x)) := by
  show D.non = sD (if isName x = true then some x else none)
  rw [h]
  rfl
theorem nameIn_yes {x : Str} (h : isName x = true) : D.str x = sD (nameIn (some x)) := by
  show D.str x = sD (if isName x = true then some x else none)
  rw [h]
  rfl
def oneOf (o : Option Str) (zs : List Str) : Option Str := if inS? o zs then o else none
section
variable {P : Program} {w : World} {K : PySem.W.Frag} {mg : Str → Option Value} {base : Heap} {MC : Addr → Prop} {T : List (Addr × Str)} {f fI C g : Addr} {fd fdI fdP fdN : FuncData}
theorem isN_sD {o : Option Str} : (sD o).isN = o.isNone := by cases o <;> rfl
def F_namein : FS {o : Option Str // ∀ x, o = some x → x.length ≤ 100000} := { args := fun o => [sD o.1], st := fun _ => [], ret := fun o d η => d = sD (nameIn o.1) ∧ η = [] }
theorem k_namein (F : Fun K "name_in" "name_in" s_name_in f fd) (h1 : mg "len" = none) (hm : ∃ t, mg "MOST_LETTERS" = some (.int 8 t)) (hl : ∃ t, mg "LETTERS" = some (.str "abcdefghijklmnopqrstuvwxyz" t)) : FnOk P w K mg base CX0 1 f fd ["word"] (spOf ⟨K, MC, T⟩ F_namein) :=
  ok_of _ F c_name_in (fun _ => rfl) fun a cdv A outer s H E hr => by
    obtain ⟨o, ho⟩ := a
    show SVs _ _ [some (sD o), none] [] _
    cases o with
    | none =>
      refine svs_cons (sv_ifC (tv_w (tv_orC (tv_cmp (nomark _) (ev_var 0 rfl (ev_non (opw_isN ⟨_, rfl, (fun z => nomatch z), fun _ => ⟨fun _ => ?_, fun z => nomatch z⟩⟩)))))))
      exact svs_cons (sv_ret (ev_non (lose_id ⟨rfl, rfl⟩)))
    | some x =>
      have hx : x.length ≤ sizeLine := by have := ho x rfl; rw [sizeLine_eq]; omega
      refine svs_cons (sv_ifC (tv_w (tv_orC (tv_cmp (nomark _) (ev_var 0 rfl (ev_non (opw_isN ⟨_, rfl, fun _ => ?_, fun z => nomatch z⟩)))))))
      refine wv_or1 (tv_not (tv_chain (ev_int (ev_callB h1 boot_len (av_cons (ev_var (d := .str x) 0 rfl (av_nil (cw_lenS hx (opw_le ⟨_, rfl, fun e1 => ?_, fun e1 => ⟨fun _ => ?_, fun z => nomatch z⟩⟩)))))))))
      · refine ev_gint hm (opw_le ⟨_, rfl, fun e2 => ?_, fun e2 => ?_⟩)
        · have e2 : decide ((x.length : Int) ≤ 8) = false := by simpa using e2
          exact svs_cons (sv_ret (ev_non (lose_id ⟨nameIn_no (by unfold isName; rw [show decide (x.length ≤ 8) = false from decide_eq_false (by have := of_decide_eq_false e2; omega)]; simp), rfl⟩)))
        · have l1 : 1 ≤ x.length := by have := of_decide_eq_true e1; omega
          have l2 : x.length ≤ 8 := by
            have : decide ((x.length : Int) ≤ 8) = true := by simpa using e2
            have := of_decide_eq_true this
            omega
          refine svs_nil (svs_cons (sv_forI (.nm 1) PassesOwn.never rfl (pg_name c_name_in.nd rfl (Or.inl rfl)) (iv_str (ev_var (d := .str x) 0 rfl ⟨x, rfl, fun i ρ' η' => η' = [] ∧ ((x.cps.toList.take i).all fun c => decide (c ∈ letters.cps.toList)) = true ∧ ∃ v, ρ' = [some (.str x), v], fun _ _ _ _ => trivial, ⟨rfl, rfl, none, rfl⟩, ?_, ?_⟩))))
          · rintro i d ρ' η' e ⟨rfl, all, v, rfl⟩
            unfold strsL at e
            rw [List.getElem?_map, Option.map_eq_some_iff] at e
            obtain ⟨c, ec, rfl⟩ := e
            refine ⟨trivial, svs_cons (sv_ifC (tv_cmp rfl (ev_var (d := .str ⟨#[c]⟩) 1 rfl (ev_gstr hl (opw_ninC ⟨_, rfl, fun e3 => ?_, fun e3 => svs_nil ?_⟩)))))⟩
            · refine svs_cons (sv_ret (ev_non (lose_id ⟨nameIn_no ?_, rfl⟩)))
              have : (x.cps.toList.all fun c => decide (c ∈ letters.cps.toList)) = false := by
                rw [List.all_eq_false]
                exact ⟨c, List.mem_of_getElem? ec, by simpa [letters] using e3⟩
              unfold isName
              rw [this]
              simp
            · refine svs_nil ⟨rfl, ?_, _, rfl⟩
              rw [List.take_add_one, ec, List.all_append, all]
              simpa [letters] using e3
          · rintro ρ' η' ⟨rfl, all, v, rfl⟩
            unfold strsL at all
            rw [List.length_map, List.take_length] at all
            refine svs_cons (sv_ret (ev_var (d := .str x) 0 rfl (lose_id ⟨nameIn_yes ?_, rfl⟩)))
            unfold isName
            rw [all, decide_eq_true l1, decide_eq_true l2]
            rfl
      · have e1 : ¬ (1 : Int) ≤ (x.length : Int) := of_decide_eq_false e1
        refine svs_cons (sv_ret (ev_non (lose_id ⟨nameIn_no ?_, rfl⟩)))
        unfold isName
        rw [decide_eq_false (show ¬ 1 ≤ x.length by omega)]
        rfl
def F_oneof : FS (Option Str × List Str) := { args := fun o => [sD o.1, .tup (o.2.map D.str)], st := fun _ => [], ret := fun o d η => d = sD (oneOf o.1 o.2) ∧ η = [] }
theorem k_oneof (F : Fun K "one_of" "one_of" s_one_of f fd) : FnOk P w K mg base CX0 1 f fd ["word", "words"] (spOf ⟨K, MC, T⟩ F_oneof) :=
  ok_of _ F c_one_of (fun _ => rfl) fun a cdv A outer s H E hr => by
    obtain ⟨o, zs⟩ := a
    refine svs_cons (sv_ret (ev_ifC (tv_cmp rfl (ev_var (d := sD o) 0 rfl (ev_var (d := .tup (zs.map D.str)) 1 rfl (opw_inTS ⟨_, rfl, fun e => ?_, fun e => ?_⟩))))))
    · exact ev_var (d := sD o) 0 rfl (lose_id ⟨by unfold oneOf; rw [e]; rfl, rfl⟩)
    · exact ev_non (lose_id ⟨by unfold oneOf; rw [e]; rfl, rfl⟩)
/-! the class Words -/
def I_words (C : Addr) : IS (Nat × Addr × List Str) := { args := fun s => [.int (s.1 : Nat), .ref s.2.1], st := fun s => [(s.2.1, .lst (s.2.2.map D.str))], fs := fun s => [("line", .int (s.1 : Nat)), ("words", .ref s.2.1), ("at", .int 0), ("end", .int (s.2.2.length : Nat))], back := fun s => [(s.2.1, .lst (s.2.2.map D.str))] }
theorem k_winit (F : Fun K "__init__" "Words.__init__" s_Wordsu_initu f fd) (W : WCls K C) (hm : MC C) (h1 : mg "len" = none) : FnOk P w K mg base CX0 1 f fd ["self", "line", "words"] (spInit ⟨K, MC, T⟩ C (I_words C)) :=
  ok_init (I_words C) F c_Wordsu_initu (fun _ => rfl) (fun _ => .inl hm) fun a cdv A outer s H E z hr => by
    obtain ⟨ln, l, x⟩ := a
    have small : ∀ {k : Nat}, k ≤ 4 → k < 1000 := fun h => by omega
    refine svs_cons (sv_fld (ev_var 1 rfl (ev_var 0 rfl ⟨z, C, [], rfl, List.mem_cons_self, W.cl, W.n1, small (by decide), ?_⟩)))
    rw [putM_here]
    refine svs_cons (sv_fld (ev_var 2 rfl (ev_var 0 rfl ⟨z, C, _, rfl, List.mem_cons_self, W.cl, W.n2, (by show 1 < 1000; decide), ?_⟩)))
    rw [putM_here]
    refine svs_cons (sv_fld (ev_int (ev_var 0 rfl ⟨z, C, _, rfl, List.mem_cons_self, W.cl, W.n3, (by show 2 < 1000; decide), ?_⟩)))
    rw [putM_here]
    refine svs_cons (sv_fld (ev_callB h1 boot_len (av_cons (ev_var 2 rfl (av_nil (cw_lenL (List.mem_cons_of_mem _ List.mem_cons_self) (ev_var 0 rfl ⟨z, C, _, rfl, List.mem_cons_self, W.cl, W.n4, (by show 3 < 1000; decide), ?_⟩)))))))
    rw [putM_here, List.length_map]
    exact svs_nil (lose_id rfl)
def F_present (C : Addr) : FS {s : Wst // s.ok} := { args := fun s => [.ref s.1.z], st := fun s => s.1.st C, ret := fun s d η => d = sD s.1.cur ∧ η = s.1.st C }
theorem k_present (F : Fun K "present" "Words.present" s_Words_present f fd) (W : WCls K C) : FnOk P w K mg base CX0 1 f fd ["self"] (spOf ⟨K, MC, T⟩ (F_present C)) :=
  ok_of _ F c_Words_present (fun _ => rfl) fun a cdv A outer s H E hr => by
    obtain ⟨⟨z, l, ws, ln, i, n⟩, ok⟩ := a
    have le : n ≤ ws.length := ok.le
    refine svs_cons (sv_ret (ev_ifC (tv_cmp (nomark _) ?_)))
    refine ev_fldO (ev_var (d := .ref z) 0 rfl ⟨z, C, _, .int (i : Nat), rfl, List.mem_cons_self, W.cl, W.n3, rfl, ev_fldO (ev_var (d := .ref z) 0 rfl ⟨z, C, _, .int (n : Nat), rfl, List.mem_cons_self, W.cl, W.n4, rfl, opw_lt ⟨_, rfl, fun e => ?_, fun e => ?_⟩⟩)⟩)
    · have lt : i < n := by have := of_decide_eq_true e; omega
      have ex : (ws.map D.str)[i]? = some (.str (ws[i]'(by omega))) := by rw [List.getElem?_map, List.getElem?_eq_getElem (by omega)]; rfl
      refine ev_ix (fun _ _ => rfl) (ev_fldO (ev_var (d := .ref z) 0 rfl ⟨z, C, _, .ref l, rfl, List.mem_cons_self, W.cl, W.n2, rfl, ev_fldO (ev_var (d := .ref z) 0 rfl ⟨z, C, _, .int (i : Nat), rfl, List.mem_cons_self, W.cl, W.n3, rfl, xw_list (List.mem_cons_of_mem _ List.mem_cons_self) (atI_pos ex) (lose_id ⟨?_, rfl⟩)⟩)⟩))
      unfold Wst.cur
      rw [if_pos lt, List.getElem?_eq_getElem (show i < ws.length by omega)]
      rfl
    · refine ev_non (lose_id ⟨?_, rfl⟩)
      unfold Wst.cur
      rw [if_neg (show ¬ i < n by have := of_decide_eq_false e; omega)]
      rfl
def F_need (C : Addr) : FS {s : Wst × D // s.2.isN = false} := { args := fun s => [.ref s.1.1.z, s.1.2], st := fun s => s.1.1.st C, ret := fun s d η => d = s.1.2 ∧ η = s.1.1.nxt.st C }
theorem k_need (F : Fun K "need" "Words.need" s_Words_need f fd) (W : WCls K C) : FnOk P w K mg base CX0 1 f fd ["self", "meaning"] (spOf ⟨K, MC, T⟩ (F_need C)) :=
  ok_of _ F c_Words_need (fun _ => rfl) fun a cdv A outer s H E hr => by
    obtain ⟨⟨⟨z, l, ws, ln, i, n⟩, d⟩, hd⟩ := a
    have hd : d.isN = false := hd
    refine svs_cons (sv_ifC (tv_cmp (nomark _) (ev_var (d := d) 1 rfl (ev_non (opw_isN ⟨_, rfl, fun e => ?_, fun _ => svs_nil ?_⟩)))))
    · rw [hd] at e
      cases e
    refine svs_cons (sv_fld (ev_bin (ev_fldO (ev_var (d := .ref z) 0 rfl ⟨z, C, _, .int (i : Nat), rfl, List.mem_cons_self, W.cl, W.n3, rfl, ev_int (opw_add (ev_var (d := .ref z) 0 rfl ⟨z, C, _, rfl, List.mem_cons_self, W.cl, W.n3, by show 4 < 1000; decide, ?_⟩))⟩))))
    show SVs _ _ _ (putM z _ ((z, wob C l ln i n) :: _)) _
    rw [putM_here]
    exact svs_cons (sv_ret (ev_var (d := d) 1 rfl (lose_id ⟨rfl, rfl⟩)))
def F_needend (C : Addr) : FS {s : Wst // s.i = s.ws.length} := { args := fun s => [.ref s.1.z], st := fun s => s.1.st C, ret := fun s d η => d = .non ∧ η = s.1.st C }
theorem k_needend (F : Fun K "need_end" "Words.need_end" s_Words_need_end f fd) (W : WCls K C) (h1 : mg "len" = none) : FnOk P w K mg base CX0 1 f fd ["self"] (spOf ⟨K, MC, T⟩ (F_needend C)) :=
  ok_of _ F c_Words_need_end (fun _ => rfl) fun a cdv A outer s H E hr => by
    obtain ⟨⟨z, l, ws, ln, i, n⟩, hi⟩ := a
    have hi : i = ws.length := hi
    refine svs_cons (sv_ifC (tv_cmp (nomark _) ?_))
    refine ev_fldO (ev_var (d := .ref z) 0 rfl ⟨z, C, _, .int (i : Nat), rfl, List.mem_cons_self, W.cl, W.n3, rfl, ?_⟩)
    refine ev_callB h1 boot_len (av_cons (ev_fldO (ev_var (d := .ref z) 0 rfl ⟨z, C, _, .ref l, rfl, List.mem_cons_self, W.cl, W.n2, rfl, av_nil (cw_lenL (List.mem_cons_of_mem _ List.mem_cons_self) (opw_lt ⟨_, rfl, fun e => ?_, fun e => ?_⟩))⟩)))
    · have := of_decide_eq_true e
      rw [List.length_map] at this
      have this : (i : Int) < (ws.length : Int) := this
      omega
    · exact svs_nil (svs_nil (lose_id ⟨rfl, rfl⟩))
end
end K85
end Sx

namespace Sx
namespace K85
open PySem PySem.Spec PyProof.Rows L2 TL
open LamX (Tabs TabS TabB ExtN)
section
variable {P : Program} {w : World} {K : PySem.W.Frag} {mg : Str → Option Value} {base : Heap} {MC : Addr → Prop} {T : List (Addr × Str)} {f fI C g : Addr} {fd fdI fdP fdN : FuncData}
/-- the methods of Words that others call -/
structure WMeths (P : Program) (w : World) (K : PySem.W.Frag) (mg : Str → Option Value) (base : Heap) (MC : Addr → Prop) (T : List (Addr × Str)) (C : Addr) : Prop where
  cls : WCls K C
  pres : ∃ f fd, Meth K C "present" f ∧ FnOk P w K mg base CX0 1 f fd ["self"] (spOf ⟨K, MC, T⟩ (F_present C)) ∧ Binds K fd ["self"] []
  need : ∃ f fd, Meth K C "need" f ∧ FnOk P w K mg base CX0 1 f fd ["self", "meaning"] (spOf ⟨K, MC, T⟩ (F_need C)) ∧ Binds K fd ["self", "meaning"] []
section
variable {y : Sy} {o e : Expr} {es : List Expr} {ρ : Rho} {η : Sto} {Q : D → Sto → Prop} {pos p1 : Pos}
theorem wob_mem {s : Wst} {ηr : Sto} : (s.z, wob C s.l s.ln s.i s.n) ∈ s.st C ++ ηr := List.mem_cons_self
/-- w.present() -/
theorem ev_present {pl : Sem Bool} (M : WMeths y.X.prog y.X.w y.X.K y.X.mg y.X.base y.MC y.T C) (hr : Room 1 y.X.A) (h : EV y o ρ η fun d η1 => ∃ (s : Wst) (ηr : Sto) (c : Option Str), s.ok ∧ d = .ref s.z ∧ s.cur = c ∧ η1.Perm (s.st C ++ ηr) ∧ Q (sD c) (s.st C ++ ηr))
    (ht : eval (.Call (.Attribute o "present" p1) [] [] pos) y.X.env = (do
      let ov ← eval o y.X.env
      standAt p1.atName
      let (f, first) ← holding [ov] (getMethod ov "present" pl)
      callWith pos f first (backTo pos (starEach [] y.X.env)) (backToKw pos (keywordEach [] y.X.env))) := by rfl) : EV y (.Call (.Attribute o "present" p1) [] [] pos) ρ η Q := by
  obtain ⟨f, fd, m, K, b⟩ := M.pres
  refine ev_mt0 M.cls.cl m K hr b (h.mono fun d η1 z => ?_) ht
  obtain ⟨s, ηr, c, ok, rfl, rfl, pm, q⟩ := z
  exact ⟨.inr ⟨s.z, _, rfl, pm.mem_iff.mpr wob_mem, rfl⟩, ⟨s, ok⟩, ηr, rfl, pm, fun d η' ⟨e1, e2⟩ => by rw [e1, e2]; exact q, fun _ _ _ _ z => z.elim⟩
/-- w.need(e) -/
theorem ev_need {pl : Sem Bool} (M : WMeths y.X.prog y.X.w y.X.K y.X.mg y.X.base y.MC y.T C) (hr : Room 1 y.X.A) (h : EV y o ρ η fun d η1 => (∃ (p : Addr) (fs : List (Str × D)), d = .ref p ∧ (p, .obj C fs) ∈ η1 ∧ fs.lookup ("need" : Str) = none) ∧ EV y e ρ η1 fun v η2 => ∃ (s : Wst) (ηr : Sto), d = .ref s.z ∧ v.isN = false ∧ η2.Perm (s.st C ++ ηr) ∧ Q v (s.nxt.st C ++ ηr))
    (hn : noStar e = true := by rfl)
    (ht : eval (.Call (.Attribute o "need" p1) [e] [] pos) y.X.env = (do
      let ov ← eval o y.X.env
      standAt p1.atName
      let (f, first) ← holding [ov] (getMethod ov "need" pl)
      callWith pos f first (backTo pos (starEach [e] y.X.env)) (backToKw pos (keywordEach [] y.X.env))) := by rfl) : EV y (.Call (.Attribute o "need" p1) [e] [] pos) ρ η Q := by
  obtain ⟨f, fd, m, K, b⟩ := M.need
  refine ev_mt M.cls.cl m K hr b (h.mono fun d η1 z => ⟨.inr z.1, av_cons (z.2.mono fun v η2 q => av_nil ?_) (star_cons hn)⟩) (star_cons hn) rfl ht
  obtain ⟨s, ηr, rfl, hv, pm, q⟩ := q
  exact ⟨⟨(s, v), hv⟩, ηr, rfl, pm, fun d η' ⟨e1, e2⟩ => by rw [e1, e2]; exact q, fun _ _ _ _ z => z.elim⟩
end
/-- need_word -/
def F_needword (C : Addr) : FS {s : (Wst × List Str) × Str // s.1.1.ok ∧ s.1.1.cur = some s.2 ∧ s.2 ∈ s.1.2} := { args := fun s => [.ref s.1.1.1.z, .tup (s.1.1.2.map D.str)], st := fun s => s.1.1.1.st C, ret := fun s d η => d = .str s.1.2 ∧ η = s.1.1.1.nxt.st C }
theorem k_needword (F : Fun K "need_word" "Words.need_word" s_Words_need_word f fd) (M : WMeths P w K mg base MC T C) (G : Cal P w K mg base 1 "one_of" ["word", "words"] (spOf ⟨K, MC, T⟩ F_oneof)) : FnR P w K mg base CX0 2 f (spStar ⟨K, MC, T⟩ (F_needword C) 1) :=
  ok_star (ps := ["self"]) (pv := "words") _ F c_Words_need_word (fun kV doc pm an cdv ct us rest h => by
    match us, h with
    | [a], _ => cases rest <;> rfl) fun a cdv A outer s H E hr => by
    obtain ⟨⟨⟨st, zs⟩, x⟩, ok, cur, mem⟩ := a
    have ok : st.ok := ok
    have cur : st.cur = some x := cur
    have mem : x ∈ zs := mem
    show SVs _ _ [some (.ref st.z), some (.tup (zs.map D.str))] (st.st C) _
    have eo : oneOf (some x) zs = some x := by
      show (if decide (x ∈ zs) = true then some x else none) = some x
      rw [decide_eq_true mem]
      rfl
    refine svs_cons (sv_ret (ev_need M hr (ev_var (d := .ref st.z) 0 rfl ⟨⟨st.z, _, rfl, List.mem_cons_self, rfl⟩, ?_⟩)))
    refine ev_cal G hr (av_cons (ev_present M hr (ev_var (d := .ref st.z) 0 rfl ⟨st, [], some x, ok, rfl, cur, by rw [List.append_nil], ?_⟩)))
    refine av_cons (ev_var (d := .tup (zs.map D.str)) 1 rfl (av_nil ⟨(some x, zs), st.st C ++ [], rfl, List.Perm.refl _, ?_, fun _ _ _ _ z => z.elim⟩))
    rintro d η' ⟨rfl, rfl⟩
    rw [eo]
    exact ⟨st, [], rfl, rfl, List.Perm.refl _, lose_id ⟨rfl, by rw [List.append_nil]⟩⟩
/-- need_name -/
def F_needname (C : Addr) : FS {s : Wst × Str // s.1.ok ∧ s.1.cur = some s.2 ∧ isName s.2 = true} := { args := fun s => [.ref s.1.1.z], st := fun s => s.1.1.st C, ret := fun s d η => d = .str s.1.2 ∧ η = s.1.1.nxt.st C }
theorem name_len {x : Str} (h : isName x = true) : x.length ≤ 8 := by
  unfold isName at h
  simp only [Bool.and_eq_true, decide_eq_true_eq] at h
  exact h.2.1
theorem k_needname (F : Fun K "need_name" "Words.need_name" s_Words_need_name f fd) (M : WMeths P w K mg base MC T C) (G : Cal P w K mg base 1 "name_in" ["word"] (spOf ⟨K, MC, T⟩ F_namein)) : FnOk P w K mg base CX0 2 f fd ["self"] (spOf ⟨K, MC, T⟩ (F_needname C)) :=
  ok_of _ F c_Words_need_name (fun _ => rfl) fun a cdv A outer s H E hr => by
    obtain ⟨⟨st, x⟩, ok, cur, nm⟩ := a
    have ok : st.ok := ok
    have cur : st.cur = some x := cur
    have nm : isName x = true := nm
    show SVs _ _ [some (.ref st.z)] (st.st C) _
    refine svs_cons (sv_ret (ev_need M hr (ev_var (d := .ref st.z) 0 rfl ⟨⟨st.z, _, rfl, List.mem_cons_self, rfl⟩, ?_⟩)))
    refine ev_cal G hr (av_cons (ev_present M hr (ev_var (d := .ref st.z) 0 rfl ⟨st, [], some x, ok, rfl, cur, by rw [List.append_nil], ?_⟩)))
    refine av_nil ⟨⟨some x, fun z e => by cases e; have := name_len nm; omega⟩, st.st C ++ [], rfl, List.Perm.refl _, ?_, fun _ _ _ _ z => z.elim⟩
    rintro d η' ⟨rfl, rfl⟩
    rw [← nameIn_yes nm]
    exact ⟨st, [], rfl, rfl, List.Perm.refl _, lose_id ⟨rfl, by rw [List.append_nil]⟩⟩
/-- need_no_more, of one line -/
def F_nomore : FS (Addr × Addr) := { args := fun s => [.ref s.1, .int 1], st := fun s => [(s.1, .lst [.ref s.2])], ret := fun s d η => d = .non ∧ η = [] }
theorem k_nomore (F : Fun K "need_no_more" "need_no_more" s_need_no_more f fd) (h1 : mg "len" = none) : FnOk P w K mg base CX0 1 f fd ["lines", "many"] (spOf ⟨K, MC, T⟩ F_nomore) :=
  ok_of _ F c_need_no_more (fun _ => rfl) fun a cdv A outer s H E hr => by
    obtain ⟨L, z⟩ := a
    refine svs_cons (sv_ifC (tv_cmp (nomark _) ?_))
    refine ev_callB h1 boot_len (av_cons (ev_var (d := .ref L) 0 rfl (av_nil (cw_lenL List.mem_cons_self (ev_var (d := .int 1) 1 rfl (opw_gt ⟨_, rfl, (fun z => nomatch z), fun _ => ?_⟩))))))
    exact svs_nil (svs_nil (lose_nil ⟨rfl, rfl⟩))
/-- lines_of, of one line -/
def F_lines (C : Addr) : FS {x : Str // 10 ∉ tl x ∧ x.length ≤ 10000000 ∧ (Txt.split x " ").length ≤ 100000} := { args := fun s => [.str s.1], st := fun _ => [], ret := fun s d η => ∃ L z l, d = .ref L ∧ η = (L, .lst [.ref z]) :: Wst.st C ⟨z, l, Txt.split s.1 " ", 0, 0, (Txt.split s.1 " ").length⟩ }
theorem k_lines (F : Fun K "lines_of" "lines_of" s_lines_of f fd) (M : Mk K C fI) (KI : FnOk P w K mg base CX0 1 fI fdI ["self", "line", "words"] (spInit ⟨K, MC, T⟩ C (I_words C))) (bI : Binds K fdI ["self", "line", "words"] []) (hm : MC C) (mC : mg "Words" = some (.ref C))
    (h1 : mg "isinstance" = none) (h2 : mg "str" = none) (h3 : mg "enumerate" = none) : FnOk P w K mg base CX0 3 f fd ["text"] (spOf ⟨K, MC, T⟩ (F_lines C)) :=
  ok_of _ F c_lines_of (fun _ => rfl) fun a cdv A outer s H E hr => by
    obtain ⟨x, hx⟩ := a
    have hl : x.length + 2 ≤ sizeLine := by have := hx.2.1; rw [sizeLine_eq]; omega
    refine svs_cons (sv_ifC (tv_not (tv_val ?_)))
    refine ev_callB h1 boot_isinstance (av_cons (ev_var (d := .str x) 0 rfl (av_cons (ev_bltn h2 PySem.Pv.boot_str (av_nil (cw_isi (.str _) (.ty _) (r := true) rfl ⟨true, rfl, (fun z => nomatch z), fun _ => svs_nil ?_⟩))))))
    refine svs_cons (sv_ret ?_)
    refine ev_lc (own := [("line", 1), ("part", 2)]) (.tp [1, 2]) rfl c_lines_of.nd (blkOk_by (N := n_lines_of) (sc := defScope s_lines_of) (by decide +kernel)) (fun _ _ _ _ _ => pg_two rfl c_lines_of.nd rfl rfl (Or.inl rfl) (Or.inl rfl) (Or.inr rfl) (Or.inr rfl)) (by decide) ?_
    refine iv_enum h3 (av_cons (ev_split (ev_var (d := .str x) 0 rfl ⟨rfl, av_cons (ev_str (av_nil (mw_split (by decide) hl fun q => ?_)))⟩)))
    rw [split_one (s := 10) (S := []) (by decide) (by decide +kernel) hx.1]
    refine av_nil ⟨q, _, rfl, List.mem_cons_self, ?_⟩
    refine ⟨fun i acc η => (i = 0 ∧ acc = [] ∧ η = [(q, .lst [.str x])]) ∨ (i = 1 ∧ ∃ z l, acc = [.ref z] ∧ η = Wst.st C ⟨z, l, Txt.split x " ", 0, 0, (Txt.split x " ").length⟩ ++ [(q, .lst [.str x])]), ?_, .inl ⟨rfl, rfl, rfl⟩, ?_, ?_⟩
    · rintro i acc η' (⟨_, rfl, rfl⟩ | ⟨_, z, l, rfl, rfl⟩)
      · exact ⟨List.mem_cons_self, by rw [sizeLine_eq]; decide⟩
      · exact ⟨List.mem_append_right _ List.mem_cons_self, by rw [sizeLine_eq]; show 1 < 16777216; decide⟩
    · rintro i d acc η' e (⟨rfl, rfl, rfl⟩ | ⟨rfl, z, l, rfl, rfl⟩)
      · have e' : d = .tup [.int 0, .str x] := (Option.some.inj e).symm
        subst e'
        refine ⟨rfl, fun s' H' Cc cl fp => ?_⟩
        refine ev_mk M KI (hr.mono (by decide)) mC bI (av_cons (ev_var 1 rfl (av_cons (ev_split (ev_var (d := .str x) 2 rfl ⟨rfl, av_cons (ev_str (av_nil (mw_split (by decide) hl fun l => ?_)))⟩)))))
        exact av_nil ⟨(0, l, Txt.split x " "), [(q, .lst [.str x])], rfl, List.Perm.refl _, fun z => (z hm).elim, fun _ z => .inr ⟨rfl, z, l, rfl, rfl⟩⟩
      · cases e
    · rintro acc η' L (⟨z, _⟩ | ⟨_, z, l, rfl, rfl⟩)
      · cases z
      · exact lose_sub (((List.sublist_append_left _ _)).cons_cons _) ⟨L, z, l, rfl, rfl⟩
end
end K85
end Sx

namespace Sx
namespace K85
open PySem PySem.Spec PyProof.Rows L2 TL
open LamX (Tabs TabS TabB ExtN)
/-! the texts of stretches -/
def okS12 (s : Stc) : Prop := ok12 s.1 ∧ ok12 s.2
def bs (s : Stc) : List (Option Int) := if s.1.isSome && decide (s.1 = s.2) then [s.1] else [s.1, s.2]
theorem free_end {o : Option Int} {k : Nat} (h : k ≠ 45) (h2 : k < 48 ∨ 57 < k) : k ∉ tl (endT o) := by
  cases o with
  | none => exact List.not_mem_nil
  | some i => exact free_int h h2
theorem partT_join (s : Stc) : partT s = Txt.join ".." ((bs s).map endT) := by
  unfold partT bs
  split
  · rw [join_eq]
    rfl
  · rw [join_eq]
    rfl
theorem split_part (s : Stc) : Txt.split (partT s) ".." = (bs s).map endT := by
  rw [partT_join]
  refine TL.split_join (s := 46) (S := [46]) (by decide) (by decide +kernel) (fun e => ?_) fun p hp => ?_
  · have := congrArg List.length e
    rw [List.length_map] at this
    unfold bs at this
    split at this <;> simp at this
  · obtain ⟨o, _, rfl⟩ := List.mem_map.mp hp
    exact free_end (by decide) (by decide)
theorem free_part {s : Stc} {k : Nat} (h : k ≠ 45) (h2 : k < 48 ∨ 57 < k) (h3 : k ≠ 46) : k ∉ tl (partT s) := by
  have hd : tl (("..") : Str) = [46, 46] := by decide
  unfold partT
  split
  · exact free_end h h2
  · rw [tl_append, tl_append, List.mem_append, List.mem_append, hd]
    simp [h3, free_end h h2]
theorem bs_len (s : Stc) : (bs s).length ≤ 2 ∧ 1 ≤ (bs s).length := by
  unfold bs
  split <;> simp
theorem bs_first (s : Stc) : (bs s)[0]? = some s.1 := by
  unfold bs
  split <;> rfl
theorem bs_last (s : Stc) : ∃ pre, bs s = pre ++ [s.2] := by
  unfold bs
  split
  · rename_i h
    simp only [Bool.and_eq_true, decide_eq_true_eq] at h
    exact ⟨[], by rw [h.2]; rfl⟩
  · exact ⟨[s.1], rfl⟩
theorem bs_ne (s : Stc) : bs s ≠ [none] := by
  unfold bs
  split
  · rename_i h
    simp only [Bool.and_eq_true, decide_eq_true_eq] at h
    intro e
    have : s.1 = none := by simpa using e
    rw [this] at h
    cases h.1
  · intro e
    simp at e
theorem bs_ok {s : Stc} (h : okS12 s) : ∀ o ∈ bs s, ok12 o := by
  intro o ho
  unfold bs at ho
  split at ho
  · rw [List.mem_singleton] at ho
    rw [ho]
    exact h.1
  · simp at ho
    rcases ho with rfl | rfl
    · exact h.1
    · exact h.2
theorem endT_ne {o : Option Int} : decide (endT o = ("" : Str)) = o.isNone := by
  cases o with
  | none => rfl
  | some i =>
    refine decide_eq_false fun e => ?_
    have h : tl (intS i) = tl ("" : Str) := congrArg tl e
    rw [tl_int] at h
    have h2 : tl ("" : Str) = [] := rfl
    rw [h2] at h
    exact numL_ne _ (List.append_eq_nil_iff.mp h).2
def oneP (o : Option Int) : PyData := .tuple [endP o]
def oneD (o : Option Int) : D := .tup [endD o]
theorem pd_one {η : Sto} (o : Option Int) : PdAt η (oneD o) (oneP o) := .tup (.cons pd_end .nil)
theorem oneP_lay (o : Option Int) : (oneP o).canLay0 = true := by simp [oneP, PyData.canLay0, PyData.canLayAll0, endP_lay]
theorem oneP_depth (o : Option Int) : (oneP o).depth = 1 := by simp [oneP, PyData.depth, PyData.depthAll, endP_depth]
theorem oneP_eqv (a b : Option Int) : PyData.eqv (oneP a) (oneP b) = decide (a = b) := by
  simp only [oneP, PyData.eqv, PyData.eqvAll, endP_eqv, Bool.and_true]
theorem shaped_one (xs : List (Option Int)) : SeqAt.shaped (.list (xs.map oneP)) = true := shapedL (n := 1) oneP_lay (fun o => Nat.le_of_eq (oneP_depth o)) (by decide) xs
theorem un65 {A : Around} {k : Nat} (hr : Room k A) : A.units + 65 < cLine := by
  have := hr.un
  omega
section
variable {P : Program} {w : World} {K : PySem.W.Frag} {mg : Str → Option Value} {base : Heap} {MC : Addr → Prop} {T : List (Addr × Str)} {f fI C : Addr} {fd fdI : FuncData}
def F_boundin : FS {o : Option Int // ok12 o} := { args := fun o => [.str (endT o.1)], st := fun _ => [], ret := fun o d η => d = oneD o.1 ∧ η = [] }
theorem k_boundin (F : Fun K "bound_in" "bound_in" s_bound_in f fd) (G : Cal P w K mg base 1 "integer_in" ["word", "most"] (spOf ⟨K, MC, T⟩ F_intin)) (hf : ∃ t, mg "MOST_BOUND_FIGURES" = some (.int 12 t)) : FnOk P w K mg base CX0 2 f fd ["text"] (spOf ⟨K, MC, T⟩ F_boundin) :=
  ok_of _ F c_bound_in (fun _ => rfl) fun a cdv A outer s H E hr => by
    obtain ⟨o, ho⟩ := a
    obtain ⟨tk, hf⟩ := hf
    have one : 1 ≤ sizeLine := by rw [sizeLine_eq]; decide
    refine svs_cons (sv_if (T := fun b η => b = o.isNone ∧ η = []) (tv_cmp (nomark _) (ev_var 0 rfl (ev_str (opw_eqS ⟨_, rfl, endT_ne, rfl⟩)))) ?_ ?_)
    · rintro η ⟨e, rfl⟩
      cases o with
      | some i => cases e
      | none => exact svs_cons (sv_ret (ev_tup (av_cons (ev_non (av_nil ⟨one, lose_nil ⟨rfl, rfl⟩⟩)))))
    · rintro η ⟨e, rfl⟩
      cases o with
      | none => cases e
      | some i =>
        refine svs_nil (svs_cons (sv_asg 1 (ev_cal0 G hr (av_cons (ev_var 0 rfl (av_cons (ev_glob (v := .int 12) (d := .int 12) hf ⟨_, rfl⟩ (fun _ => at_int.mpr rfl) (av_nil ⟨⟨i, ho i rfl⟩, rfl, rfl, ?_, fun _ _ _ _ z => z⟩)))))) c_bound_in.nd))
        rintro d η' ⟨rfl, rfl⟩
        refine svs_cons (sv_ret (ev_ifExp (T := fun b η => b = false ∧ η = []) (tv_cmp (nomark _) (ev_var 1 rfl (ev_non (opw_isN ⟨_, rfl, rfl, rfl⟩)))) (fun _ z => nomatch z.1) ?_))
        rintro η ⟨_, rfl⟩
        exact ev_tup (av_cons (ev_var (d := .int i) 1 rfl (av_nil ⟨one, lose_nil ⟨rfl, rfl⟩⟩)))
def F_partin (C : Addr) : FS {s : Stc // okS12 s} := { args := fun s => [.str (partT s.1)], st := fun _ => [], ret := fun s d η => d = rng C (joinM (btw s.1)) ∧ η = [] }
theorem k_partin {mc : Value} {p g : Addr} (F : Fun K "part_in" "part_in" s_part_in f fd) (G : Cal P w K mg base 2 "bound_in" ["text"] (spOf ⟨K, MC, T⟩ F_boundin)) (h1 : mg "len" = none) (mC : mg "Ranges" = some (.ref C)) (r : ClX.CRead K C mc) (c : ClX.CMet K C mc "between" p g)
    (KB : FnR P w K mg base CX0 6 g (spOf ⟨K, MC, T⟩ (F_between C))) : FnOk P w K mg base CX0 7 f fd ["text"] (spOf ⟨K, MC, T⟩ (F_partin C)) :=
  ok_of _ F c_part_in (fun _ => rfl) fun a cdv A outer s H E hr => by
    obtain ⟨s, hs⟩ := a
    have hp : (partT s).length ≤ 30 := partT_len ⟨hs.1.b, hs.2.b⟩
    obtain ⟨l2, l1⟩ := bs_len s
    obtain ⟨pre, hpre⟩ := bs_last s
    refine svs_cons (sv_setLcM (own := [("bound", 2)]) 1 (.nm 2) (bs s) (fun o => D.str (endT o)) oneD rfl c_part_in.nd (blkOk_by (N := n_part_in) (sc := defScope s_part_in) (by decide +kernel)) (fun _ _ _ _ _ => pg_name c_part_in.nd rfl (Or.inl rfl) (Or.inr rfl)) (by decide) ?_ (sw_true rfl rfl rfl (by decide +kernel)))
    refine iv_list (ev_split (ev_var 0 rfl ⟨rfl, av_cons (ev_str (av_nil (mw_split (by decide) (by rw [sizeLine_eq]; show (partT s).length + 2 ≤ _; omega) fun q => ?_)))⟩))
    rw [show Txt.split (partT s) ".." = (bs s).map endT from split_part s]
    refine ⟨q, _, rfl, List.mem_cons_self, by rw [List.map_map]; rfl, List.mem_cons_self, by rw [sizeLine_eq]; omega, fun o ho => ⟨trivial, fun s' H' Cc cl fp => ?_⟩, fun L => ?_⟩
    · refine ev_cal0 G (hr.mono (by decide)) (av_cons (ev_var 2 rfl (av_nil ⟨⟨o, bs_ok hs o ho⟩, rfl, rfl, ?_, fun _ _ _ _ z => z⟩)))
      rintro d η' ⟨rfl, rfl⟩
      exact ⟨rfl, rfl⟩
    · have mem : ∀ {η1 : Sto}, ([(L, Mo.lst ((bs s).map oneD))]).Sublist η1 → (L, Mo.lst ((bs s).map oneD)) ∈ η1 := fun h => h.subset List.mem_cons_self
      have pl : ∀ {η1 : Sto}, ([(L, Mo.lst ((bs s).map oneD))]).Sublist η1 → PdAt η1 (.ref L) (.list ((bs s).map oneP)) := fun h => .lst (mem h) (pd_map pd_one _)
      refine SVs.drop (η := [(L, .lst ((bs s).map oneD))]) ((List.nil_sublist _).cons_cons _) ?_
      refine svs_cons (sv_if (T := fun b η => b = false ∧ ([(L, Mo.lst ((bs s).map oneD))]).Sublist η) (tv_w (wv_or (T := fun b η => b = false ∧ ([(L, Mo.lst ((bs s).map oneD))]).Sublist η) (tv_cmp rfl ?_) ?_ (fun _ z => nomatch z.1))) (fun _ z => nomatch z.1) ?_)
      · refine ev_non (ev_var (d := .ref L) 1 rfl (opw_inD (un65 hr) .non (pl (List.Sublist.refl _)) (by rfl) (shaped_one _) ⟨_, rfl, ?_, List.Sublist.refl _⟩))
        rw [List.any_eq_false]
        intro z hz
        obtain ⟨o, _, rfl⟩ := List.mem_map.mp hz
        simp [oneP, PyData.eqv]
      · rintro η1 ⟨_, sl⟩
        refine wv_or (T := fun b η => b = false ∧ ([(L, Mo.lst ((bs s).map oneD))]).Sublist η) (tv_cmp (nomark _) (ev_callB h1 boot_len (av_cons (ev_var (d := .ref L) 1 rfl (av_nil (cw_lenL (mem sl) (ev_int (opw_gt ⟨_, rfl, decide_eq_false ?_, sl⟩)))))))) ?_ (fun _ z => nomatch z.1)
        · rw [List.length_map]
          omega
        · rintro η2 ⟨_, sl2⟩
          refine wv_or1 (tv_cmp (nomark _) (ev_var (d := .ref L) 1 rfl (ev_lst (av_cons (ev_tup (av_cons (ev_non (av_nil ⟨by rw [sizeLine_eq]; show 1 ≤ 16777216; decide, av_nil ⟨by rw [sizeLine_eq]; show 1 ≤ 16777216; decide, fun m => ?_⟩⟩))))))))
          refine opw_eqD (un64 hr) (pl (sl2.cons _)) (.lst List.mem_cons_self (pd_map pd_one [none])) (shaped_one _) (shaped_one [none]) ⟨_, rfl, ?_, sl2.cons _⟩
          rw [show PyData.eqv (.list ((bs s).map oneP)) (.list (([none] : List (Option Int)).map oneP)) = decide (bs s = [none]) from eqvL oneP_eqv _ _]
          exact decide_eq_false (bs_ne s)
      · rintro η1 ⟨_, sl⟩
        refine svs_nil (svs_cons (sv_ret (ev_cm r c KB hr (ev_glob (v := .ref C) (d := .ref C) mC rfl (fun _ => at_ref.mpr rfl) ⟨rfl, ?_⟩))))
        have i0 : atI ((bs s).map oneD) 0 = some (oneD s.1) := atI_pos (i := 0) (by rw [List.getElem?_map, bs_first]; rfl)
        have i1 : atI ((bs s).map oneD) (-1) = some (oneD s.2) := by rw [hpre, List.map_append]; exact atI_last _ _
        refine av_cons (ev_ix (fun _ _ => rfl) (ev_ix (fun _ _ => rfl) (ev_var (d := .ref L) 1 rfl (ev_int (xw_list (mem sl) i0 (ev_int (xw_tup (d := endD s.1) (by rfl) ?_)))))))
        refine av_cons (ev_ix (fun _ _ => rfl) (ev_ix (fun _ _ => rfl) (ev_var (d := .ref L) 1 rfl (ev_un (ev_int (unw_neg (xw_list (mem sl) i1 (ev_int (xw_tup (d := endD s.2) (by rfl) ?_)))))))))
        refine av_nil ⟨s, η1, rfl, List.Perm.refl _, ?_, fun _ _ _ _ z => z.elim⟩
        rintro d η' ⟨rfl, rfl⟩
        exact lose_nil ⟨rfl, rfl⟩
end
end K85
end Sx

namespace Sx
namespace K85
open PySem PySem.Spec PyProof.Rows L2 TL
open LamX (Tabs TabS TabB ExtN)
def foldU (xs : List Stc) : List Stc := xs.foldl (fun acc s => joinM (acc ++ joinM (btw s))) (joinM [])
theorem joinM_nil : joinM [] = [] := by simp [joinM, sortM]
theorem joinM_one (s : Stc) : joinM [s] = [s] := by simp [joinM, sortM, stepJ]
structure Good (ps : List Stc) : Prop where
  ok : ∀ s ∈ ps, okS12 s
  len : ps.length ≤ 100
  fold : ∀ i, foldU (ps.take i) = ps.take i
theorem Good.all {ps : List Stc} (g : Good ps) : foldU ps = ps := by
  have := g.fold ps.length
  rwa [List.take_length] at this
theorem Good.okPs {ps : List Stc} (g : Good ps) : okPs ps := ⟨fun s hs => ⟨(g.ok s hs).1.b, (g.ok s hs).2.b⟩, by have := g.len; omega⟩
theorem foldU_next {ps : List Stc} {i : Nat} {s : Stc} (e : ps[i]? = some s) : joinM (foldU (ps.take i) ++ joinM (btw s)) = foldU (ps.take (i + 1)) := by
  unfold foldU
  rw [List.take_add_one, e, List.foldl_append]
  rfl
theorem part_sign (s : Stc) : ∃ c, c ∈ tl (partT s) ∧ c ≠ 45 := by
  unfold partT
  split
  · rename_i h
    simp only [Bool.and_eq_true, decide_eq_true_eq] at h
    cases e : s.1 with
    | none =>
      rw [e] at h
      cases h.1
    | some i =>
      have : numL i.natAbs ≠ [] := numL_ne _
      obtain ⟨c, cs, ec⟩ := List.exists_cons_of_ne_nil this
      have hm : c ∈ numL i.natAbs := by rw [ec]; exact List.mem_cons_self
      have hd := numL_digits _ c hm
      refine ⟨c, ?_, by omega⟩
      show c ∈ tl (intS i)
      rw [tl_int, List.mem_append]
      exact .inr hm
  · refine ⟨46, ?_, by decide⟩
    have hd : tl (("..") : Str) = [46, 46] := by decide
    rw [tl_append, tl_append, List.mem_append, List.mem_append, hd]
    simp
theorem joinL_mem {S : List Nat} {c : Nat} : ∀ {ps : List (List Nat)} {p : List Nat}, p ∈ ps → c ∈ p → c ∈ joinL S ps
  | [p], q, h, hc => by
    rw [List.mem_singleton] at h
    subst h
    exact hc
  | p :: p2 :: r, q, h, hc => by
    show c ∈ p ++ (S ++ joinL S (p2 :: r))
    rcases List.mem_cons.mp h with rfl | h
    · exact List.mem_append_left _ hc
    · exact List.mem_append_right _ (List.mem_append_right _ (joinL_mem h hc))
theorem joinL_free {S : List Nat} {c : Nat} (hS : c ∉ S) : ∀ {ps : List (List Nat)}, (∀ p ∈ ps, c ∉ p) → c ∉ joinL S ps
  | [], _ => List.not_mem_nil
  | [p], h => h p List.mem_cons_self
  | p :: p2 :: r, h => by
    show c ∉ p ++ (S ++ joinL S (p2 :: r))
    rw [List.mem_append, List.mem_append, not_or, not_or]
    exact ⟨h p List.mem_cons_self, hS, joinL_free hS fun q hq => h q (List.mem_cons_of_mem _ hq)⟩
theorem tl_parts {ps : List Stc} (h : ps ≠ []) : tl (partsT ps) = joinL [44] ((ps.map partT).map tl) := by
  unfold partsT
  rw [if_neg h, join_eq, tl_join]
  rfl
theorem parts_dash (ps : List Stc) : decide (partsT ps = ("-" : Str)) = decide (ps = []) := by
  by_cases h : ps = []
  · subst h
    rfl
  · rw [decide_eq_false h]
    refine decide_eq_false fun e => ?_
    obtain ⟨s, r, rfl⟩ := List.exists_cons_of_ne_nil h
    obtain ⟨c, hc, hn⟩ := part_sign s
    have e2 : tl (partsT (s :: r)) = tl ("-" : Str) := congrArg tl e
    have e3 : tl (("-") : Str) = [45] := by decide
    rw [tl_parts h, e3] at e2
    have : c ∈ joinL [44] (((s :: r).map partT).map tl) := joinL_mem (p := tl (partT s)) (by simp) hc
    rw [e2, List.mem_singleton] at this
    exact hn this
theorem parts_free {ps : List Stc} {k : Nat} (h : k ≠ 45) (h2 : k < 48 ∨ 57 < k) (h3 : k ≠ 46) (h4 : k ≠ 44) : k ∉ tl (partsT ps) := by
  by_cases hp : ps = []
  · subst hp
    have e3 : tl (("-") : Str) = [45] := by decide
    show k ∉ tl (("-") : Str)
    rw [e3, List.mem_singleton]
    exact h
  · rw [tl_parts hp]
    refine joinL_free (by simpa using h4) fun p hp => ?_
    obtain ⟨q, hq, rfl⟩ := List.mem_map.mp hp
    obtain ⟨s, _, rfl⟩ := List.mem_map.mp hq
    exact free_part h h2 h3
theorem split_parts {ps : List Stc} (h : ps ≠ []) : Txt.split (partsT ps) "," = ps.map partT := by
  unfold partsT
  rw [if_neg h]
  refine TL.split_join (s := 44) (S := []) (by decide) (by decide +kernel) (fun e => h (List.map_eq_nil_iff.mp e)) fun p hp => ?_
  obtain ⟨s, _, rfl⟩ := List.mem_map.mp hp
  exact free_part (by decide) (by decide) (by decide)
theorem join_len (y : Str) : ∀ zs : List Str, (Txt.join y zs).length ≤ (zs.map (·.length)).sum + zs.length * y.length
  | [] => Nat.zero_le _
  | [z] => by
    rw [join_eq]
    show z.length ≤ _
    simp
  | x :: z :: r => by
    have ih := join_len y (z :: r)
    rw [join_eq] at ih ⊢
    show (x ++ y ++ Str.join y (z :: r)).length ≤ _
    rw [len_app, len_app]
    simp only [List.map_cons, List.sum_cons, List.length_cons] at ih ⊢
    have : (r.length + 1 + 1) * y.length = (r.length + 1) * y.length + y.length := by rw [Nat.add_mul (r.length + 1) 1, Nat.one_mul]
    omega
theorem partsT_small {ps : List Stc} (h : okPs ps) : (partsT ps).length ≤ 31 * ps.length + 1 := by
  unfold partsT
  split
  · have : ((("-") : Str)).length = 1 := by decide
    omega
  · have h1 := join_len "," (ps.map partT)
    have h2 := partsT_len h
    have h3 : (((",") : Str)).length = 1 := by decide
    rw [h3, List.length_map] at h1
    omega
theorem Good.clean {ps : List Stc} (g : Good ps) : clean (partsT ps) := ⟨parts_free (by decide) (by decide) (by decide) (by decide), parts_free (by decide) (by decide) (by decide) (by decide), by have := partsT_small g.okPs; have := g.len; omega⟩
section
variable {P : Program} {w : World} {K : PySem.W.Frag} {mg : Str → Option Value} {base : Heap} {MC : Addr → Prop} {T : List (Addr × Str)} {f C CW : Addr} {fd : FuncData}
/-- the operator | of Ranges -/
structure OrOk (P : Program) (w : World) (K : PySem.W.Frag) (mg : Str → Option Value) (base : Heap) (MC : Addr → Prop) (T : List (Addr × Str)) (C g : Addr) : Prop where
  sf : PySem.W.selfFirst K C = true
  fi : PySem.W.findIn K (.ref C) "__or__" = some (some (.ref g))
  fn : PySem.W.isFn K (.ref g) = true
  ok : FnR P w K mg base CX0 6 g (spOf ⟨K, MC, T⟩ (F_or C))
def F_rangesin (C : Addr) : FS {ps : List Stc // Good ps} := { args := fun s => [.str (partsT s.1)], st := fun _ => [], ret := fun s d η => d = rng C s.1 ∧ η = [] }
theorem k_rangesin {mc : Value} {p g go : Addr} (F : Fun K "ranges_in" "ranges_in" s_ranges_in f fd) (G : Cal P w K mg base 7 "part_in" ["text"] (spOf ⟨K, MC, T⟩ (F_partin C))) (GS : Cal P w K mg base 3 "show_ranges" ["ranges"] (spOf ⟨K, MC, T⟩ (F_show C))) (mC : mg "Ranges" = some (.ref C)) (r : ClX.CRead K C mc) (c : ClX.CMet K C mc "empty" p g)
    (KE : FnR P w K mg base CX0 6 g (spOf ⟨K, MC, T⟩ (F_empty C))) (O : OrOk P w K mg base MC T C go) : FnOk P w K mg base CX0 8 f fd ["word"] (spOf ⟨K, MC, T⟩ (F_rangesin C)) :=
  ok_of _ F c_ranges_in (fun _ => rfl) fun a cdv A outer s H E hr => by
    obtain ⟨ps, g⟩ := a
    have hr6 : Room 6 _ := hr.mono (by decide)
    have hr3 : Room 3 _ := hr.mono (by decide)
    refine svs_cons (sv_if (T := fun b η => b = false ∧ η = []) (tv_cmp (nomark _) (ev_var 0 rfl (ev_non (opw_isN ⟨_, rfl, rfl, rfl⟩)))) (fun _ z => nomatch z.1) ?_)
    rintro η ⟨_, rfl⟩
    refine svs_nil (svs_cons (sv_asg 1 (ev_cm0 r c KE hr6 (ev_glob (v := .ref C) (d := .ref C) mC rfl (fun _ => at_ref.mpr rfl) ⟨rfl, (), [], rfl, List.Perm.refl _, ?_, fun _ _ _ _ z => z.elim⟩)) c_ranges_in.nd))
    rintro d η' ⟨rfl, rfl⟩
    -- the end of it
    have fin : ∀ (v2 v3 : Option D) (η : Sto), SVs (yBody P w K mg base MC T n_ranges_in "ranges_in" (defScope s_ranges_in) f cdv A outer s H E) ((defBody s_ranges_in).drop 3) [some (.str (partsT ps)), some (rng C ps), v2, v3] η { nx := fun _ η => Lose ((F_rangesin C).ret ⟨ps, g⟩ .non) η, rt := fun d η => Lose ((F_rangesin C).ret ⟨ps, g⟩ d) η } := by
      intro v2 v3 η
      refine svs_cons (sv_ret (ev_ifExp (T := fun b η => b = true) (tv_cmp (nomark _) (ev_cal0 GS hr3 (av_cons (ev_var 1 rfl (av_nil ⟨⟨ps, g.okPs⟩, rfl, rfl, ?_, fun _ _ _ _ z => z⟩))))) ?_ (fun _ z => nomatch z)))
      · rintro d η' ⟨rfl, rfl⟩
        exact ev_var 0 rfl (opw_eqS ⟨_, rfl, by simp⟩)
      · intro η1 _
        exact ev_var 1 rfl (lose_nil ⟨rfl, rfl⟩)
    refine svs_cons (sv_if (T := fun b η => b = !decide (ps = []) ∧ η = []) (tv_cmp (nomark _) (ev_var 0 rfl (ev_str (opw_neS ⟨_, rfl, by rw [show decide (partsT ps = ("-" : Str)) = decide (ps = []) from parts_dash ps], rfl⟩)))) ?_ ?_)
    · rintro η ⟨e, rfl⟩
      have hne : ps ≠ [] := fun z => by rw [decide_eq_true z] at e; cases e
      have hsm := partsT_small g.okPs
      have hl := g.len
      refine svs_cons (sv_forI (.nm 2) PassesOwn.never rfl (pg_name c_ranges_in.nd rfl (Or.inl rfl)) (iv_list (ev_split (ev_var 0 rfl ⟨rfl, av_cons (ev_str (av_nil (mw_split (by decide) (by rw [sizeLine_eq]; show (partsT ps).length + 2 ≤ _; omega) fun q => ?_)))⟩))))
      rw [show Txt.split (partsT ps) "," = ps.map partT from split_parts hne]
      refine ⟨q, _, rfl, List.mem_cons_self, fun i ρ' η' => η' = [(q, .lst ((ps.map partT).map D.str))] ∧ ∃ v2 v3, ρ' = [some (.str (partsT ps)), some (rng C (foldU (ps.take i))), v2, v3], ?_, ⟨rfl, none, none, rfl⟩, ?_, ?_⟩
      · rintro i ρ' η' ⟨rfl, _⟩
        exact List.mem_cons_self
      · rintro i d ρ' η' e ⟨rfl, v2, v3, rfl⟩
        rw [List.map_map, List.getElem?_map, Option.map_eq_some_iff] at e
        obtain ⟨x, e, rfl⟩ := e
        refine ⟨trivial, ?_⟩
        refine svs_cons (sv_asg 3 (ev_cal0 G hr (av_cons (ev_var (d := .str (partT x)) 2 rfl (av_nil ⟨⟨x, g.ok x (List.mem_of_getElem? e)⟩, rfl, rfl, ?_, fun _ _ _ _ z => z⟩)))) c_ranges_in.nd)
        rintro d η' ⟨rfl, rfl⟩
        refine svs_cons (sv_if (T := fun b η => b = false ∧ η = [(q, .lst ((ps.map partT).map D.str))]) (tv_cmp (nomark _) (ev_var (d := rng C (joinM (btw x))) 3 rfl (ev_non (opw_isN ⟨_, rfl, rfl, rfl⟩)))) (fun _ z => nomatch z.1) ?_)
        rintro η ⟨_, rfl⟩
        have lb : (foldU (ps.take i)).length + (joinM (btw x)).length ≤ 1000 := by
          rw [g.fold i, List.length_take]
          have h1 : (joinM (btw x)).length ≤ 1 := by
            unfold btw
            split
            · rw [joinM_nil]
              exact Nat.zero_le _
            · rw [joinM_one]
              exact Nat.le_refl _
          omega
        refine svs_nil (svs_cons (sv_asg 1 (ev_bin (ev_var 1 rfl (ev_var (d := rng C (joinM (btw x))) 3 rfl (opw_own (op_ownB O.sf O.fi O.fn O.ok hr6 pas0) ⟨⟨(foldU (ps.take i), joinM (btw x)), lb⟩, [(q, .lst ((ps.map partT).map D.str))], rfl, List.Perm.refl _, ?_, fun _ _ _ _ z => z.elim⟩)))) c_ranges_in.nd))
        rintro d η' ⟨rfl, rfl⟩
        exact svs_nil ⟨rfl, _, _, by rw [← foldU_next e]; rfl⟩
      · rintro ρ' η' ⟨rfl, v2, v3, rfl⟩
        refine svs_nil ?_
        rw [List.length_map, List.length_map, List.take_length, g.all]
        exact fin _ _ _
    · rintro η ⟨e, rfl⟩
      have hne : ps = [] := by
        by_cases h : ps = []
        · exact h
        · rw [decide_eq_false h] at e
          cases e
      subst hne
      refine svs_nil ?_
      show SVs _ _ ([some (.str (partsT [])), some (rng C (joinM [])), none, none]) _ _
      rw [joinM_nil]
      exact fin none none []
end
end K85
end Sx

namespace Sx
namespace K85
open PySem PySem.Spec PyProof.Rows L2 TL
/-! ### trees of filters, plainly -/
inductive Tr where
  | always | never | miss (c : Str) | wi (c : Str) (ps : List Stc) | nt (t : Tr) | bin (a : Bool) (t u : Tr)
def Tr.d : Tr → D
  | .always => .tup [.str "always"]
  | .never => .tup [.str "never"]
  | .miss c => .tup [.str "missing", .str c]
  | .wi c ps => .tup [.str "within", .str c, partsD ps]
  | .nt t => .tup [.str "not", t.d]
  | .bin a t u => .tup [.str (if a then "and" else "or"), t.d, u.d]
/-- signs within one another -/
def Tr.dep : Tr → Nat
  | .nt t => t.dep + 1
  | .bin _ t u => max t.dep u.dep + 1
  | _ => 0
def Tr.size : Tr → Nat
  | .nt t => t.size + 1
  | .bin _ t u => t.size + u.size + 1
  | _ => 1
def Tr.cols : Tr → List Str
  | .miss c => [c]
  | .wi c _ => [c]
  | .nt t => t.cols
  | .bin _ t u => t.cols ++ u.cols
  | _ => []
def sgn (a : Bool) : Str := if a then "&" else "|"
def Tr.ws : Tr → List Str
  | .always => ["always"]
  | .never => ["never"]
  | .miss c => ["missing", c]
  | .wi c ps => ["in", c, partsT ps]
  | .nt t => "~" :: t.ws
  | .bin a t u => sgn a :: (t.ws ++ u.ws)
/-- signs and conditions -/
inductive Tk where
  | neg | two (a : Bool) | leaf (t : Tr)
def Tr.tks : Tr → List Tk
  | .nt t => .neg :: t.tks
  | .bin a t u => .two a :: (t.tks ++ u.tks)
  | t => [.leaf t]
/-- what the tokens come to, from the last one on -/
def stk (st : List Tr) : Tk → List Tr
  | .leaf t => t :: st
  | .neg => match st with
    | t :: r => .nt t :: r
    | [] => []
  | .two a => match st with
    | t :: u :: r => .bin a t u :: r
    | st => st
theorem stk_tks : ∀ (t : Tr) (st : List Tr), t.tks.reverse.foldl stk st = t :: st
  | .always, st => rfl
  | .never, st => rfl
  | .miss c, st => rfl
  | .wi c ps, st => rfl
  | .nt t, st => by
    simp only [Tr.tks, List.reverse_cons, List.foldl_append, List.foldl_cons, List.foldl_nil, stk_tks t, stk]
  | .bin a t u, st => by
    simp only [Tr.tks, List.reverse_cons, List.reverse_append, List.foldl_append, List.foldl_cons, List.foldl_nil, stk_tks u, stk_tks t, stk]
/-- a tree whose texts can be read: its columns are names, its stretches good -/
def Tr.good : Tr → Prop
  | .miss c => isName c = true
  | .wi c ps => isName c = true ∧ Good ps
  | .nt t => t.good
  | .bin _ t u => t.good ∧ u.good
  | _ => True
def Tr.isLeaf : Tr → Bool
  | .nt _ => false
  | .bin .. => false
  | _ => true
/-! ### reading: what is still to be read around the present tree -/
inductive Fr' where
  | one | left (u : Tr)
def Fr'.cnt : Fr' → Nat
  | .one => 1
  | .left _ => 2
def Fr'.ws : Fr' → List Str
  | .one => []
  | .left u => u.ws
def Fr'.tks : Fr' → List Tk
  | .one => []
  | .left u => u.tks
/-- the innermost frame comes first -/
def pendW (fs : List Fr') : List Str := fs.flatMap Fr'.ws
def pendT (fs : List Fr') : List Tk := fs.flatMap Fr'.tks
/-- behind a condition: the frames that are done are left -/
def popF : List Fr' → List Fr'
  | .one :: r => popF r
  | fs => fs
theorem popF_w (fs : List Fr') : pendW (popF fs) = pendW fs := by
  induction fs with
  | nil => rfl
  | cons f r ih =>
    cases f with
    | one => exact ih
    | left u => rfl
theorem popF_t (fs : List Fr') : pendT (popF fs) = pendT fs := by
  induction fs with
  | nil => rfl
  | cons f r ih =>
    cases f with
    | one => exact ih
    | left u => rfl
theorem popF_len (fs : List Fr') : (popF fs).length ≤ fs.length := by
  induction fs with
  | nil => exact Nat.le_refl _
  | cons f r ih =>
    cases f with
    | one => exact Nat.le_succ_of_le ih
    | left u => exact Nat.le_refl _
theorem popF_case (fs : List Fr') : popF fs = [] ∨ ∃ u r, popF fs = .left u :: r := by
  induction fs with
  | nil => exact .inl rfl
  | cons f r ih =>
    cases f with
    | one => exact ih
    | left u => exact .inr ⟨u, r, rfl⟩
/-- the depths fit -/
def okFs : List Fr' → Prop
  | [] => True
  | .one :: r => okFs r
  | .left u :: r => r.length + 1 + u.dep ≤ 100 ∧ u.good ∧ okFs r
theorem okFs.pop {fs : List Fr'} (h : okFs fs) : okFs (popF fs) := by
  induction fs with
  | nil => exact h
  | cons f r ih =>
    cases f with
    | one => exact ih h
    | left u => exact h
theorem ws_ne (t : Tr) : 1 ≤ t.ws.length := by cases t <;> simp [Tr.ws]
theorem tks_leaf {t : Tr} (h : t.isLeaf = true) : t.tks = [.leaf t] := by cases t <;> first | rfl | cases h
theorem dep_size (t : Tr) : t.dep ≤ t.size := by
  induction t with
  | nt t ih => exact Nat.succ_le_succ ih
  | bin a t u ih1 ih2 => simp only [Tr.dep, Tr.size]; omega
  | _ => exact Nat.zero_le _
end K85
end Sx

namespace Sx
namespace K85
open PySem PySem.Spec PyProof.Rows L2 TL
open LamX (Tabs TabS TabB ExtN)

def Tr.hd : Tr → Str
  | .always => "always"
  | .never => "never"
  | .miss _ => "missing"
  | .wi .. => "within"
  | .nt _ => "not"
  | .bin a _ _ => if a then "and" else "or"
def Tr.parts : Tr → List Tr
  | .nt t => [t]
  | .bin _ t u => [t, u]
  | _ => []
def Tr.rest : Tr → List D
  | .miss c => [.str c]
  | .wi c ps => [.str c, partsD ps]
  | .nt t => [t.d]
  | .bin _ t u => [t.d, u.d]
  | _ => []
theorem Tr.d_is (t : Tr) : t.d = .tup (.str t.hd :: t.rest) := by cases t <;> rfl
def condW : List Str := ["within", "missing"]
def signW : List Str := ["and", "or", "not"]
def Tr.isC : Tr → Bool
  | .miss _ => true
  | .wi .. => true
  | _ => false
def Tr.isS : Tr → Bool
  | .nt _ => true
  | .bin .. => true
  | _ => false
theorem inC (t : Tr) : inS? (some t.hd) condW = t.isC := by
  cases t with
  | always => show inS? (some "always") condW = false; decide +kernel
  | never => show inS? (some "never") condW = false; decide +kernel
  | miss c => show inS? (some "missing") condW = true; decide +kernel
  | wi c ps => show inS? (some "within") condW = true; decide +kernel
  | nt t => show inS? (some "not") condW = false; decide +kernel
  | bin a t u =>
    cases a
    · show inS? (some "or") condW = false
      decide +kernel
    · show inS? (some "and") condW = false
      decide +kernel
theorem inSg (t : Tr) : inS? (some t.hd) signW = t.isS := by
  cases t with
  | always => show inS? (some "always") signW = false; decide +kernel
  | never => show inS? (some "never") signW = false; decide +kernel
  | miss c => show inS? (some "missing") signW = false; decide +kernel
  | wi c ps => show inS? (some "within") signW = false; decide +kernel
  | nt t => show inS? (some "not") signW = true; decide +kernel
  | bin a t u =>
    cases a
    · show inS? (some "or") signW = true
      decide +kernel
    · show inS? (some "and") signW = true
      decide +kernel
theorem hd_cond {t : Tr} (h : t.isC = true) : ∃ c r, t.rest = .str c :: r ∧ t.cols = [c] := by
  cases t with
  | miss c => exact ⟨c, _, rfl, rfl⟩
  | wi c ps => exact ⟨c, _, rfl, rfl⟩
  | _ => cases h
theorem hd_sign {t : Tr} (h : t.isS = true) : t.rest = t.parts.map Tr.d ∧ t.cols = t.parts.flatMap Tr.cols := by
  cases t with
  | nt t => exact ⟨rfl, by simp [Tr.cols, Tr.parts]⟩
  | bin a t u => exact ⟨rfl, by simp [Tr.cols, Tr.parts]⟩
  | _ => cases h
theorem hd_none {t : Tr} (h1 : t.isC = false) (h2 : t.isS = false) : t.cols = [] := by
  cases t with
  | always => rfl
  | never => rfl
  | bin a t u => cases h2
  | nt t => cases h2
  | miss c => cases h1
  | wi c ps => cases h1
theorem part_dep {t u : Tr} (h : u ∈ t.parts) : u.dep + 1 ≤ t.dep ∧ u.size + 1 ≤ t.size := by
  cases t with
  | nt t => rw [List.mem_singleton.mp h]; exact ⟨Nat.le_refl _, Nat.le_refl _⟩
  | bin a t v =>
    simp only [Tr.parts, List.mem_cons, List.not_mem_nil, or_false] at h
    rcases h with rfl | rfl <;> simp only [Tr.dep, Tr.size] <;> omega
  | _ => cases h
theorem cols_size (t : Tr) : t.cols.length ≤ t.size := by
  induction t with
  | nt t ih => exact Nat.le_succ_of_le ih
  | bin a t u ih1 ih2 => simp only [Tr.cols, Tr.size, List.length_append]; omega
  | always => exact Nat.zero_le _
  | never => exact Nat.zero_le _
  | miss c => exact Nat.le_refl _
  | wi c ps => exact Nat.le_refl _
theorem atI0 {α : Type} {x : α} {xs : List α} : atI (x :: xs) 0 = some x := by
  unfold atI ixN
  rw [if_pos (by decide : (0 : Int) ≤ 0), if_pos (by simp only [List.length_cons]; omega)]
  rfl
theorem atI1 {α : Type} {x y : α} {xs : List α} : atI (x :: y :: xs) 1 = some y := by
  unfold atI ixN
  rw [if_pos (by decide : (0 : Int) ≤ 1), if_pos (by simp only [List.length_cons]; omega)]
  rfl
theorem atI2 {α : Type} {x y z : α} {xs : List α} : atI (x :: y :: z :: xs) 2 = some z := by
  unfold atI ixN
  rw [if_pos (by decide : (0 : Int) ≤ 2), if_pos (by simp only [List.length_cons]; omega)]
  rfl
theorem cut1 (x : D) (xs : List D) : cutD (x :: xs) (some 1) none = xs := by
  unfold cutD
  rw [show HT.sIx (x :: xs).length 0 (some 1) = min 1 (x :: xs).length from HT.sIx_nat _ _ 1, HT.sIx_none, List.length_cons, Nat.min_eq_left (by omega)]
  simp
section
variable {P : Program} {w : World} {K : PySem.W.Frag} {mg : Str → Option Value} {base : Heap} {MC : Addr → Prop} {T : List (Addr × Str)} {f fI C g : Addr} {fd fdI : FuncData}
def F_cols (n : Nat) : FS {t : Tr // t.dep ≤ n ∧ t.size ≤ 1000} := { args := fun t => [t.1.d], st := fun _ => [], ret := fun t d η => ∃ q, d = .ref q ∧ η = [(q, .lst (t.1.cols.map D.str))] }
theorem cols_body (F : Fun K "columns_in" "columns_in" s_columns_in f fd) (m : mg "columns_in" = some (.ref f)) (b : Binds K fd ["tree"] []) (n : Nat) (ih : ∀ t u : Tr, t.dep ≤ n → u ∈ t.parts → ∃ j, n = j + 1 ∧ FnOk P w K mg base CX0 (j + 1) f fd ["tree"] (spOf ⟨K, MC, T⟩ (F_cols j)) ∧ u.dep ≤ j) :
    FnOk P w K mg base CX0 (n + 1) f fd ["tree"] (spOf ⟨K, MC, T⟩ (F_cols n)) := by
  refine ok_of _ F c_columns_in (fun _ => rfl) fun a cdv A outer s H E hr => ?_
  obtain ⟨t, hd, hs⟩ := a
  show SVs _ _ [some t.d, none, none] [] _
  rw [t.d_is]
  refine svs_cons (sv_ifC (tv_cmp rfl (ev_ix (fun _ _ => rfl) (ev_var (d := .tup (.str t.hd :: t.rest)) 0 rfl (ev_int (xw_tup atI0 (ev_lit (.tup (condW.map D.str)) (opw_inTS (o := some t.hd) ⟨_, rfl, fun e => ?_, fun e1 => svs_nil ?_⟩))))))))
  · obtain ⟨c, r, e2, e3⟩ := hd_cond ((inC t).symm.trans e)
    rw [e2]
    refine svs_cons (sv_ret (ev_lst (av_cons (ev_ix (fun _ _ => rfl) (ev_var (d := .tup (.str t.hd :: .str c :: r)) 0 rfl (ev_int (xw_tup atI1 (av_nil ⟨by rw [sizeLine_eq]; show 1 ≤ 16777216; decide, fun q => lose_id ⟨q, rfl, by rw [e3]; rfl⟩⟩))))))))
  refine svs_cons (sv_as 1 (ev_lst (av_nil ⟨Nat.zero_le _, fun q => ?_⟩)) c_columns_in.nd)
  refine svs_cons (sv_ifC (tv_cmp rfl (ev_ix (fun _ _ => rfl) (ev_var (d := .tup (.str t.hd :: t.rest)) 0 rfl (ev_int (xw_tup atI0 (ev_lit (.tup (signW.map D.str)) (opw_inTS (o := some t.hd) ⟨_, rfl, fun e => ?_, fun e => svs_nil ?_⟩))))))))
  · obtain ⟨e2, e3⟩ := hd_sign ((inSg t).symm.trans e)
    refine svs_cons (sv_forI (.nm 2) PassesOwn.never rfl (pg_name c_columns_in.nd rfl (Or.inl rfl)) (iv_tup (ev_sliceT (ev_var (d := .tup (.str t.hd :: t.rest)) 0 rfl (ev_int ⟨1, rfl, .str t.hd :: t.rest, rfl, ?_⟩)))))
    have cs := cols_size t
    refine ⟨_, rfl, fun i ρ' η' => η' = [(q, .lst (((t.parts.take i).flatMap Tr.cols).map D.str))] ∧ ∃ v, ρ' = [some (.tup (.str t.hd :: t.rest)), some (.ref q), v], fun _ _ _ _ => trivial, ⟨rfl, none, rfl⟩, ?_, ?_⟩
    · rintro i d ρ' η' ed ⟨rfl, v, rfl⟩
      rw [cut1, e2, List.getElem?_map, Option.map_eq_some_iff] at ed
      obtain ⟨u, eu, rfl⟩ := ed
      have mu : u ∈ t.parts := List.mem_of_getElem? eu
      obtain ⟨j, ej, oj, dj⟩ := ih t u hd mu
      have G : Cal P w K mg base (j + 1) "columns_in" ["tree"] (spOf ⟨K, MC, T⟩ (F_cols j)) := cal_mk oj m F.kp b
      refine ⟨trivial, svs_cons (sv_ex (ev_extend (ev_var (d := .ref q) 1 rfl ⟨.inl ⟨rfl, _, List.mem_cons_self⟩, av_cons (ev_cal0 G (hr.mono (by omega)) (av_cons (ev_var (d := u.d) 2 rfl (av_nil ⟨⟨u, dj, by have := (part_dep mu).2; omega⟩, rfl, rfl, ?_, fun _ _ _ _ z => z⟩))))⟩)))⟩
      rintro d η' ⟨p, rfl, rfl⟩
      have nx : (t.parts.take (i + 1)).flatMap Tr.cols = (t.parts.take i).flatMap Tr.cols ++ u.cols := by
        rw [List.take_add_one, eu, List.flatMap_append]
        simp
      have sub : ((t.parts.take (i + 1)).flatMap Tr.cols).length ≤ t.cols.length := by
        rw [e3]
        conv => rhs; rw [← List.take_append_drop (i + 1) t.parts, List.flatMap_append, List.length_append]
        exact Nat.le_add_right _ _
      rw [nx, List.length_append] at sub
      refine av_nil (MtW.nd fun nd => mw_extend (List.mem_cons_of_mem _ List.mem_cons_self) List.mem_cons_self (by rw [sizeLine_eq, List.length_map, List.length_map]; show _ + u.cols.length ≤ _; omega) ?_)
      show SVs _ _ _ (putM q _ [(p, _), (q, _)]) _
      rw [putM_2 nd, ← List.map_append, ← nx]
      exact SVs.drop (List.sublist_cons_self _ _) (svs_nil ⟨rfl, _, rfl⟩)
    · rintro ρ' η' ⟨rfl, v, rfl⟩
      rw [cut1, e2, List.length_map, List.take_length, ← e3]
      exact svs_nil (svs_cons (sv_ret (ev_var (d := .ref q) 1 rfl (lose_id ⟨q, rfl, rfl⟩))))
  · exact svs_cons (sv_ret (ev_var (d := .ref q) 1 rfl (lose_id ⟨q, rfl, by rw [hd_none ((inC t).symm.trans e1) ((inSg t).symm.trans e)]; rfl⟩)))
theorem k_cols (F : Fun K "columns_in" "columns_in" s_columns_in f fd) (m : mg "columns_in" = some (.ref f)) (b : Binds K fd ["tree"] []) : ∀ n : Nat, FnOk P w K mg base CX0 (n + 1) f fd ["tree"] (spOf ⟨K, MC, T⟩ (F_cols n)) := by
  intro n
  induction n with
  | zero => exact cols_body F m b 0 (fun t u h1 h2 => by have := (part_dep h2).1; omega)
  | succ n ih => exact cols_body F m b (n + 1) fun t u h1 h2 => ⟨n, rfl, ih, by have := (part_dep h2).1; omega⟩
end
end K85
end Sx

namespace Sx
namespace K85
open PySem PySem.Spec PyProof.Rows L2 TL
open LamX (Tabs TabS TabB ExtN)
theorem putM_lst {a : Addr} {m k : Mo} : ∀ {l : Sto}, ((l ++ [(a, k)]).map (·.1)).Nodup → putM a m (l ++ [(a, k)]) = l ++ [(a, m)]
  | [], _ => putM_here
  | (b, n) :: l, nd => by
    rw [List.cons_append, List.map_cons, List.nodup_cons] at nd
    have ne : b ≠ a := fun e => nd.1 (List.mem_map.mpr ⟨(a, k), List.mem_append_right _ List.mem_cons_self, e.symm⟩)
    rw [List.cons_append, putM_skip ne, putM_lst nd.2]
    rfl
def filD (C : Addr) (t : Tr) : D := .ins C [("tree", t.d), ("columns", .tup ((sortU t.cols).map D.str))]
theorem plain_parts (ps : List Stc) : (partsD ps).plain = true := by
  simp [partsD, D.plain, plains_map plain_stc]
theorem plain_tr (t : Tr) : t.d.plain = true := by
  induction t with
  | nt t ih => simp [Tr.d, D.plain, D.plains, ih]
  | bin a t u ih1 ih2 => simp [Tr.d, D.plain, D.plains, ih1, ih2]
  | wi c ps => simp [Tr.d, D.plain, D.plains, plain_parts]
  | _ => simp [Tr.d, D.plain, D.plains]
section
variable {P : Program} {w : World} {K : PySem.W.Frag} {mg : Str → Option Value} {base : Heap} {MC : Addr → Prop} {T : List (Addr × Str)} {f fI C CR g : Addr} {fd fdI : FuncData}
abbrev okT (n : Nat) : Type := {t : Tr // t.dep ≤ n ∧ t.size ≤ 1000}
def I_fil (n : Nat) : IS (okT n) := { args := fun t => [t.1.d], st := fun _ => [], fs := fun t => [("tree", t.1.d), ("columns", .tup ((sortU t.1.cols).map D.str))] }
theorem k_finit {n : Nat} (F : Fun K "__init__" "Filter.__init__" s_Filteru_initu f fd) (G : Cal P w K mg base (n + 1) "columns_in" ["tree"] (spOf ⟨K, fun c => c = C ∨ MC c, T⟩ (F_cols n))) (hc : Cls K C) (h1 : NoAttr K C "tree") (h2 : NoAttr K C "columns")
    (m1 : mg "tuple" = none) (m2 : mg "sorted" = none) (m3 : mg "set" = none) : FnOk P w K mg base CX0 (n + 2) f fd ["self", "tree"] (spInit ⟨K, MC, T⟩ C (I_fil n)) :=
  ok_init (I_fil n) F c_Filteru_initu (fun _ => rfl) (fun a => .inr ⟨by simp [I_fil, D.plains, plain_tr], fun _ _ z => absurd z List.not_mem_nil, rfl⟩) fun a cdv A outer s H E z hr => by
    obtain ⟨t, ht⟩ := a
    have cs := cols_size t
    show SVs _ _ [some (.ref z), some t.d] [(z, .obj C [])] _
    refine svs_cons (sv_fld (ev_var (d := t.d) 1 rfl (ev_var (d := .ref z) 0 rfl ⟨z, C, [], rfl, List.mem_cons_self, hc, h1, by show 0 < 1000; decide, ?_⟩)))
    rw [putM_here]
    refine svs_cons (sv_fld (ev_callT m1 PySem.Pv.boot_tuple (av_cons (ev_sortSet m2 m3 rfl (av_cons (ev_cal G hr (av_cons (ev_var (d := t.d) 1 rfl (av_nil ⟨⟨t, ht⟩, [(z, _)], rfl, List.Perm.refl _, ?_, fun _ _ _ _ z => z.elim⟩)))))))))
    rintro d η' ⟨q, rfl, rfl⟩
    refine av_nil ⟨q, t.cols, rfl, List.mem_cons_self, by have := ht.2; omega, fun p => av_nil (cw_tupL List.mem_cons_self ?_)⟩
    refine EV.nd fun nd => ?_
    refine ev_var (d := .ref z) 0 rfl ⟨z, C, _, rfl, List.mem_cons_of_mem _ (List.mem_cons_of_mem _ List.mem_cons_self), hc, h2, by show 1 < 1000; decide, ?_⟩
    refine svs_nil ?_
    show Lose _ (putM z _ ([(p, _), (q, _)] ++ [(z, _)]))
    rw [putM_lst nd]
    exact lose_sub (List.sublist_append_right _ _) rfl
/-! making filters -/
def F_fwithin (n : Nat) (C CR : Addr) : FS {x : Str × List Stc // x.2.length ≤ 1000} := { args := fun x => [.ref C, .str x.1.1, rng CR x.1.2], st := fun _ => [], ret := fun x d η => d = filD C (.wi x.1.1 x.1.2) ∧ η = [] }
theorem k_fwithin {n : Nat} (F : Fun K "within" "Filter.within" s_Filter_within f fd) (M : Mk K C fI) (KI : FnOk P w K mg base CX0 (n + 2) fI fdI ["self", "tree"] (spInit ⟨K, MC, T⟩ C (I_fil n))) (bI : Binds K fdI ["self", "tree"] []) (hm : ¬ MC C) (hc : Cls K CR) (hn : NoAttr K CR "parts") :
    FnOk P w K mg base CX0 (n + 4) f fd ["cls", "column", "ranges"] (spOf ⟨K, MC, T⟩ (F_fwithin n C CR)) :=
  ok_of _ F c_Filter_within (fun _ => rfl) fun a cdv A outer s H E hr => by
    obtain ⟨⟨c, ps⟩, hl⟩ := a
    show SVs _ _ [some (.ref C), some (.str c), some (rng CR ps)] [] _
    refine svs_cons (sv_ret (ev_mkL 0 M KI hr rfl bI (av_cons (ev_tup (av_cons (ev_str (av_cons (ev_var (d := .str c) 1 rfl (av_cons (ev_fld (ev_var (d := rng CR ps) 2 rfl ⟨CR, _, partsD ps, rfl, hc, hn, rfl, av_nil ⟨by rw [sizeLine_eq]; show 3 ≤ 16777216; decide, ?_⟩⟩)))))))))))
    exact av_nil ⟨⟨.wi c ps, Nat.zero_le _, by show 1 ≤ 1000; decide⟩, [], rfl, List.Perm.refl _, fun _ => lose_nil ⟨rfl, rfl⟩, fun z => (hm z).elim⟩
def F_fmiss (C : Addr) : FS Str := { args := fun x => [.ref C, .str x], st := fun _ => [], ret := fun x d η => d = filD C (.miss x) ∧ η = [] }
theorem k_fmiss {n : Nat} (F : Fun K "missing" "Filter.missing" s_Filter_missing f fd) (M : Mk K C fI) (KI : FnOk P w K mg base CX0 (n + 2) fI fdI ["self", "tree"] (spInit ⟨K, MC, T⟩ C (I_fil n))) (bI : Binds K fdI ["self", "tree"] []) (hm : ¬ MC C) : FnOk P w K mg base CX0 (n + 4) f fd ["cls", "column"] (spOf ⟨K, MC, T⟩ (F_fmiss C)) :=
  ok_of _ F c_Filter_missing (fun _ => rfl) fun c cdv A outer s H E hr => by
    show SVs _ _ [some (.ref C), some (.str c)] [] _
    refine svs_cons (sv_ret (ev_mkL 0 M KI hr rfl bI (av_cons (ev_tup (av_cons (ev_str (av_cons (ev_var (d := .str c) 1 rfl (av_nil ⟨by rw [sizeLine_eq]; show 2 ≤ 16777216; decide, ?_⟩)))))))))
    exact av_nil ⟨⟨.miss c, Nat.zero_le _, by show 1 ≤ 1000; decide⟩, [], rfl, List.Perm.refl _, fun _ => lose_nil ⟨rfl, rfl⟩, fun z => (hm z).elim⟩
def F_falways (C : Addr) : FS Unit := { args := fun _ => [.ref C], st := fun _ => [], ret := fun x d η => d = filD C .always ∧ η = [] }
theorem k_falways {n : Nat} (F : Fun K "always" "Filter.always" s_Filter_always f fd) (M : Mk K C fI) (KI : FnOk P w K mg base CX0 (n + 2) fI fdI ["self", "tree"] (spInit ⟨K, MC, T⟩ C (I_fil n))) (bI : Binds K fdI ["self", "tree"] []) (hm : ¬ MC C) (mC : mg "Filter" = some (.ref C)) : FnOk P w K mg base CX0 (n + 4) f fd ["cls"] (spOf ⟨K, MC, T⟩ (F_falways C)) :=
  ok_of _ F c_Filter_always (fun _ => rfl) fun c cdv A outer s H E hr => by
    show SVs _ _ [some (.ref C)] [] _
    refine svs_cons (sv_ret (ev_mk M KI hr mC bI (av_cons (ev_lit (.tup [.str "always"]) ?_))))
    exact av_nil ⟨⟨.always, Nat.zero_le _, by show 1 ≤ 1000; decide⟩, [], rfl, List.Perm.refl _, fun _ => lose_nil ⟨rfl, rfl⟩, fun z => (hm z).elim⟩
def F_fnever (C : Addr) : FS Unit := { args := fun _ => [.ref C], st := fun _ => [], ret := fun x d η => d = filD C .never ∧ η = [] }
theorem k_fnever {n : Nat} (F : Fun K "never" "Filter.never" s_Filter_never f fd) (M : Mk K C fI) (KI : FnOk P w K mg base CX0 (n + 2) fI fdI ["self", "tree"] (spInit ⟨K, MC, T⟩ C (I_fil n))) (bI : Binds K fdI ["self", "tree"] []) (hm : ¬ MC C) : FnOk P w K mg base CX0 (n + 4) f fd ["cls"] (spOf ⟨K, MC, T⟩ (F_fnever C)) :=
  ok_of _ F c_Filter_never (fun _ => rfl) fun c cdv A outer s H E hr => by
    show SVs _ _ [some (.ref C)] [] _
    refine svs_cons (sv_ret (ev_mkL 0 M KI hr rfl bI (av_cons (ev_lit (.tup [.str "never"]) ?_))))
    exact av_nil ⟨⟨.never, Nat.zero_le _, by show 1 ≤ 1000; decide⟩, [], rfl, List.Perm.refl _, fun _ => lose_nil ⟨rfl, rfl⟩, fun z => (hm z).elim⟩
/-- & and | -/
def F_fbin (n : Nat) (C : Addr) (a : Bool) : FS {x : Tr × Tr // (Tr.bin a x.1 x.2).dep ≤ n ∧ (Tr.bin a x.1 x.2).size ≤ 1000} := { args := fun x => [filD C x.1.1, filD C x.1.2], st := fun _ => [], ret := fun x d η => d = filD C (.bin a x.1.1 x.1.2) ∧ η = [] }
theorem k_fand {n : Nat} (F : Fun K "__and__" "Filter.__and__" s_Filteru_andu f fd) (M : Mk K C fI) (KI : FnOk P w K mg base CX0 (n + 2) fI fdI ["self", "tree"] (spInit ⟨K, MC, T⟩ C (I_fil n))) (bI : Binds K fdI ["self", "tree"] []) (hm : ¬ MC C) (mC : mg "Filter" = some (.ref C)) (hc : Cls K C) (hn : NoAttr K C "tree") :
    FnOk P w K mg base CX0 (n + 4) f fd ["self", "other"] (spOf ⟨K, MC, T⟩ (F_fbin n C true)) :=
  ok_of _ F c_Filteru_andu (fun _ => rfl) fun a cdv A outer s H E hr => by
    obtain ⟨⟨t, u⟩, h⟩ := a
    show SVs _ _ [some (filD C t), some (filD C u)] [] _
    refine svs_cons (sv_ret (ev_mk M KI hr mC bI (av_cons (ev_tup (av_cons (ev_str (av_cons (ev_fld (ev_var (d := filD C t) 0 rfl ⟨C, _, t.d, rfl, hc, hn, rfl, av_cons (ev_fld (ev_var (d := filD C u) 1 rfl ⟨C, _, u.d, rfl, hc, hn, rfl, av_nil ⟨by rw [sizeLine_eq]; show 3 ≤ 16777216; decide, ?_⟩⟩))⟩)))))))))
    exact av_nil ⟨⟨.bin true t u, h⟩, [], rfl, List.Perm.refl _, fun _ => lose_nil ⟨rfl, rfl⟩, fun z => (hm z).elim⟩
theorem k_for {n : Nat} (F : Fun K "__or__" "Filter.__or__" s_Filteru_oru f fd) (M : Mk K C fI) (KI : FnOk P w K mg base CX0 (n + 2) fI fdI ["self", "tree"] (spInit ⟨K, MC, T⟩ C (I_fil n))) (bI : Binds K fdI ["self", "tree"] []) (hm : ¬ MC C) (mC : mg "Filter" = some (.ref C)) (hc : Cls K C) (hn : NoAttr K C "tree") :
    FnOk P w K mg base CX0 (n + 4) f fd ["self", "other"] (spOf ⟨K, MC, T⟩ (F_fbin n C false)) :=
  ok_of _ F c_Filteru_oru (fun _ => rfl) fun a cdv A outer s H E hr => by
    obtain ⟨⟨t, u⟩, h⟩ := a
    show SVs _ _ [some (filD C t), some (filD C u)] [] _
    refine svs_cons (sv_ret (ev_mk M KI hr mC bI (av_cons (ev_tup (av_cons (ev_str (av_cons (ev_fld (ev_var (d := filD C t) 0 rfl ⟨C, _, t.d, rfl, hc, hn, rfl, av_cons (ev_fld (ev_var (d := filD C u) 1 rfl ⟨C, _, u.d, rfl, hc, hn, rfl, av_nil ⟨by rw [sizeLine_eq]; show 3 ≤ 16777216; decide, ?_⟩⟩))⟩)))))))))
    exact av_nil ⟨⟨.bin false t u, h⟩, [], rfl, List.Perm.refl _, fun _ => lose_nil ⟨rfl, rfl⟩, fun z => (hm z).elim⟩
def F_fnot (n : Nat) (C : Addr) : FS {t : Tr // (Tr.nt t).dep ≤ n ∧ (Tr.nt t).size ≤ 1000} := { args := fun x => [filD C x.1], st := fun _ => [], ret := fun x d η => d = filD C (.nt x.1) ∧ η = [] }
theorem k_fnot {n : Nat} (F : Fun K "__invert__" "Filter.__invert__" s_Filteru_invertu f fd) (M : Mk K C fI) (KI : FnOk P w K mg base CX0 (n + 2) fI fdI ["self", "tree"] (spInit ⟨K, MC, T⟩ C (I_fil n))) (bI : Binds K fdI ["self", "tree"] []) (hm : ¬ MC C) (mC : mg "Filter" = some (.ref C)) (hc : Cls K C) (hn : NoAttr K C "tree") :
    FnOk P w K mg base CX0 (n + 4) f fd ["self"] (spOf ⟨K, MC, T⟩ (F_fnot n C)) :=
  ok_of _ F c_Filteru_invertu (fun _ => rfl) fun a cdv A outer s H E hr => by
    obtain ⟨t, h⟩ := a
    show SVs _ _ [some (filD C t)] [] _
    refine svs_cons (sv_ret (ev_mk M KI hr mC bI (av_cons (ev_tup (av_cons (ev_str (av_cons (ev_fld (ev_var (d := filD C t) 0 rfl ⟨C, _, t.d, rfl, hc, hn, rfl, av_nil ⟨by rw [sizeLine_eq]; show 2 ≤ 16777216; decide, ?_⟩⟩)))))))))
    exact av_nil ⟨⟨.nt t, h⟩, [], rfl, List.Perm.refl _, fun _ => lose_nil ⟨rfl, rfl⟩, fun z => (hm z).elim⟩
end
end K85
end Sx

namespace Sx
namespace K85
open PySem PySem.Spec PyProof.Rows L2 TL
open LamX (Tabs TabS TabB ExtN)
/-! ### truth -/
def bD : Option Bool → D
  | none => .non
  | some b => .bl b
def bothM (a b : Option Bool) (s : Bool) : Option Bool := if a = some s ∨ b = some s then some s else if a = none ∨ b = none then none else some (!s)
def Tr.tv (v : Str → Option Int) : Tr → Option Bool
  | .always => some true
  | .never => some false
  | .miss c => some (v c).isNone
  | .wi c ps => (v c).map fun n => ps.any (inS n)
  | .nt t => (t.tv v).map (!·)
  | .bin a t u => bothM (t.tv v) (u.tv v) (!a)
def look (vs : List (Str × Option Int)) (c : Str) : Option (Option Int) := (vs.find? fun x => decide (x.1 = c)).map (·.2)
def kvD (vs : List (Str × Option Int)) : List (Key × D) := vs.map fun x => (Sum.inr x.1, endD x.2)
theorem val_look {vs : List (Str × Option Int)} {c : Str} {o : Option Int} (h : look vs c = some o) : valD (kvD vs) (Sum.inr c) = some (endD o) := by
  unfold look at h
  unfold valD kvD
  rw [Option.map_eq_some_iff] at h
  obtain ⟨x, hx, rfl⟩ := h
  rw [List.find?_map]
  have e : ((fun (kv : Key × D) => decide (kv.1 = Sum.inr c)) ∘ fun (x : Str × Option Int) => ((Sum.inr x.1, endD x.2) : Key × D)) = fun x => decide (x.1 = c) := by
    funext x
    simp
  rw [e, hx]
  rfl
def valOf (vs : List (Str × Option Int)) (c : Str) : Option Int := (look vs c).getD none
/-- lengths of the stretches -/
def Tr.small : Tr → Prop
  | .wi _ ps => ps.length ≤ 1000
  | .nt t => t.small
  | .bin _ t u => t.small ∧ u.small
  | _ => True
def bV : Option Bool → V
  | none => .non
  | some b => .bl b
theorem at_bD {G : Gv} {H : Hp} {o : Option Bool} {v : V} (h : D.At G H (bD o) v) : v = bV o := by
  cases o with
  | none => exact at_non.mp h
  | some x => exact at_bl.mp h
section
variable {y : Sy} {ρ : Rho} {η : Sto} {Q : D → Sto → Prop}
theorem opw_eqOB {o : Option Bool} {s : Bool} (h : Q (.bl (decide (o = some s))) η) : OpW y (compareOp .Eq) (bD o) (.bl s) ρ η Q := fun fp H0 σ H S w Qv ou x x' a b => by
  rw [at_bD a, at_bl.mp b]
  refine wO_of op_eq ⟨by cases o <;> rfl, ou _ η _ H h S Kp.refl (at_bl.mpr (congrArg V.bl ?_))⟩
  cases o with
  | none => simp [bV]
  | some t => simp [bV]
theorem isN_bD {o : Option Bool} : (bD o).isN = o.isNone := by cases o <;> rfl
end
section
variable {P : Program} {w : World} {K : PySem.W.Frag} {mg : Str → Option Value} {base : Heap} {MC : Addr → Prop} {T : List (Addr × Str)} {f fI C CR g : Addr} {fd fdI : FuncData}
def F_both : FS (Option Bool × Option Bool × Bool) := { args := fun x => [bD x.1, bD x.2.1, .bl x.2.2], st := fun _ => [], ret := fun x d η => d = bD (bothM x.1 x.2.1 x.2.2) ∧ η = [] }
theorem k_both (F : Fun K "both" "both" s_both f fd) : FnOk P w K mg base CX0 1 f fd ["one", "other", "strong"] (spOf ⟨K, MC, T⟩ F_both) :=
  ok_of _ F c_both (fun _ => rfl) fun x cdv A outer s H E hr => by
    obtain ⟨a, b, st⟩ := x
    show SVs _ _ [some (bD a), some (bD b), some (.bl st)] [] _
    have yes : (a = some st ∨ b = some st) → Lose (F_both.ret (a, b, st) (.bl st)) ([] : Sto) := fun h => lose_id ⟨by show _ = bD (bothM a b st); unfold bothM; rw [if_pos h]; rfl, rfl⟩
    refine svs_cons (sv_ifC (tv_w (tv_orC (tv_cmp (nomark _) (ev_var (d := bD a) 0 rfl (ev_var (d := .bl st) 2 rfl (opw_eqOB ⟨_, rfl, fun e1 => ?_, fun e1 => ⟨fun _ => ?_, fun z => nomatch z⟩⟩)))))))
    · refine wv_or1 (tv_cmp (nomark _) (ev_var (d := bD b) 1 rfl (ev_var (d := .bl st) 2 rfl (opw_eqOB ⟨_, rfl, fun e2 => ?_, fun e2 => svs_nil ?_⟩))))
      · exact svs_cons (sv_ret (ev_var (d := .bl st) 2 rfl (yes (.inr (of_decide_eq_true e2)))))
      · have n1 := of_decide_eq_false e1
        have n2 := of_decide_eq_false e2
        have nn : ¬ (a = some st ∨ b = some st) := fun z => z.elim n1 n2
        have no : (a = none ∨ b = none) → Lose (F_both.ret (a, b, st) .non) ([] : Sto) := fun h => lose_id ⟨by show _ = bD (bothM a b st); unfold bothM; rw [if_neg nn, if_pos h]; rfl, rfl⟩
        refine svs_cons (sv_ifC (tv_w (tv_orC (tv_cmp (nomark _) (ev_var (d := bD a) 0 rfl (ev_non (opw_isN ⟨_, rfl, fun e3 => ?_, fun e3 => ⟨fun _ => ?_, fun z => nomatch z⟩⟩)))))))
        · refine wv_or1 (tv_cmp (nomark _) (ev_var (d := bD b) 1 rfl (ev_non (opw_isN ⟨_, rfl, fun e4 => ?_, fun e4 => svs_nil ?_⟩))))
          · rw [isN_bD, Option.isNone_iff_eq_none] at e4
            exact svs_cons (sv_ret (ev_non (no (.inr e4))))
          · rw [isN_bD] at e3 e4
            refine svs_cons (sv_ret (ev_not (ev_var (d := .bl st) 2 rfl ⟨st, rfl, lose_id ⟨?_, rfl⟩⟩)))
            show D.bl (!st) = bD (bothM a b st)
            unfold bothM
            rw [if_neg nn, if_neg (fun z => by rcases z with z | z <;> simp [z] at e3 e4)]
            rfl
        · rw [isN_bD, Option.isNone_iff_eq_none] at e3
          exact svs_cons (sv_ret (ev_non (no (.inl e3))))
    · exact svs_cons (sv_ret (ev_var (d := .bl st) 2 rfl (yes (.inl (of_decide_eq_true e1)))))
structure TvA where
  t : Tr
  p : Addr
  vs : List (Str × Option Int)
def TvA.st (a : TvA) : Sto := [(a.p, .dic (kvD a.vs))]
def F_truth (n : Nat) : FS {a : TvA // a.t.dep ≤ n ∧ a.t.small ∧ ∀ c ∈ a.t.cols, ∃ o, look a.vs c = some o} := { args := fun a => [a.1.t.d, .ref a.1.p], st := fun a => a.1.st, ret := fun a d η => d = bD (a.1.t.tv (valOf a.1.vs)) ∧ η = a.1.st }
theorem truth_body {n : Nat} (F : Fun K "truth_of" "truth_of" s_truth_of f fd) (m : mg "truth_of" = some (.ref f)) (b : Binds K fd ["tree", "values"] []) (GB : Cal P w K mg base 1 "both" ["one", "other", "strong"] (spOf ⟨K, MC, T⟩ F_both)) (GH : Cal P w K mg base 1 "has_number" ["parts", "number"] (spOf ⟨K, MC, T⟩ F_hasn))
    (ih : ∀ t u : Tr, t.dep ≤ n → u ∈ t.parts → ∃ j, n = j + 1 ∧ FnOk P w K mg base CX0 (j + 2) f fd ["tree", "values"] (spOf ⟨K, MC, T⟩ (F_truth j)) ∧ u.dep ≤ j) : FnOk P w K mg base CX0 (n + 2) f fd ["tree", "values"] (spOf ⟨K, MC, T⟩ (F_truth n)) := by
  refine ok_of _ F c_truth_of (fun _ => rfl) fun a cdv A outer s H E hr => ?_
  obtain ⟨⟨t, p, vs⟩, hd, sm, hv⟩ := a
  have hr1 : Room 1 (A.deeper (envOfC "truth_of" (defScope s_truth_of) s.heap.objs.size f cdv)) := hr.mono (by omega)
  have hu := hu_of hr
  have hd : t.dep ≤ n := hd
  show SVs _ _ [some t.d, some (.ref p), none, none, none] [(p, .dic (kvD vs))] _
  have val : ∀ c ∈ t.cols, look vs c = some (valOf vs c) := fun c hc => by
    obtain ⟨o, e⟩ := hv c hc
    unfold valOf
    rw [e]
    rfl
  rw [t.d_is]
  refine svs_cons (sv_as 2 (ev_ix (fun _ _ => rfl) (ev_var (d := .tup (.str t.hd :: t.rest)) 0 rfl (ev_int (xw_tup atI0 ?_)))) c_truth_of.nd)
  show SVs _ _ [some (.tup (.str t.hd :: t.rest)), some (.ref p), some (.str t.hd), none, none] [(p, .dic (kvD vs))] _
  cases t with
  | wi c ps =>
    refine svs_cons (sv_ifC (tv_cmp (nomark _) (ev_var (d := .str "within") 2 rfl (ev_str (opw_eqS ⟨_, rfl, fun _ => ?_, fun e => absurd e (by decide +kernel)⟩)))))
    refine svs_cons (sv_as 3 ?_ c_truth_of.nd)
    refine ev_dget hu (fun _ _ => rfl) (ev_var (d := .ref p) 1 rfl (ev_ix (fun _ _ => rfl) (ev_var (d := .tup [.str "within", .str c, partsD ps]) 0 rfl (ev_int (xw_tup atI1 ⟨p, kvD vs, Sum.inr c, endD (valOf vs c), rfl, List.mem_cons_self, .str c, val_look (val c List.mem_cons_self), ?_⟩)))))
    show SVs _ _ [some (.tup [.str "within", .str c, partsD ps]), some (.ref p), some (.str "within"), some (endD (valOf vs c)), none] [(p, .dic (kvD vs))] _
    refine svs_cons (sv_ret (ev_ifC (tv_cmp (nomark _) (ev_var (d := endD (valOf vs c)) 3 rfl (ev_non (opw_isN ⟨_, rfl, fun e => ?_, fun e => ?_⟩))))))
    · rw [isN_end, Option.isNone_iff_eq_none] at e
      exact ev_non (lose_id ⟨by show D.non = bD ((valOf vs c).map _); rw [e]; rfl, rfl⟩)
    · rw [isN_end] at e
      obtain ⟨i, ei⟩ : ∃ i, valOf vs c = some i := by
        cases h : valOf vs c with
        | none => rw [h] at e; cases e
        | some i => exact ⟨i, rfl⟩
      refine ev_cal GH hr1 (av_cons (ev_ix (fun _ _ => rfl) (ev_var (d := .tup [.str "within", .str c, partsD ps]) 0 rfl (ev_int (xw_tup atI2 (av_cons (ev_var (d := .int i) 3 (by rw [ei]; rfl) (av_nil ⟨(⟨ps, sm⟩, i), [(p, .dic (kvD vs))], rfl, List.Perm.refl _, ?_, fun _ _ _ _ z => z.elim⟩))))))))
      rintro d η' ⟨rfl, rfl⟩
      exact lose_id ⟨by show D.bl _ = bD ((valOf vs c).map _); rw [ei]; rfl, rfl⟩
  | miss c =>
    refine svs_cons (sv_ifC (tv_cmp (nomark _) (ev_var (d := .str "missing") 2 rfl (ev_str (opw_eqS ⟨_, rfl, fun e => absurd e (by decide +kernel), fun _ => svs_nil ?_⟩)))))
    refine svs_cons (sv_ifC (tv_cmp (nomark _) (ev_var (d := .str "missing") 2 rfl (ev_str (opw_eqS ⟨_, rfl, fun _ => ?_, fun e => absurd e (by decide +kernel)⟩)))))
    refine svs_cons (sv_ret (ev_cmp (nomark _) (ev_dget hu (fun _ _ => rfl) (ev_var (d := .ref p) 1 rfl (ev_ix (fun _ _ => rfl) (ev_var (d := .tup [.str "missing", .str c]) 0 rfl (ev_int (xw_tup atI1 ⟨p, kvD vs, Sum.inr c, endD (valOf vs c), rfl, List.mem_cons_self, .str c, val_look (val c List.mem_cons_self), ev_non (opw_isN (lose_id ⟨?_, rfl⟩))⟩))))))))
    rw [isN_end]
    rfl
  | nt t =>
    obtain ⟨j, ej, oj, dj⟩ := ih (.nt t) t hd List.mem_cons_self
    have G : Cal P w K mg base (j + 2) "truth_of" ["tree", "values"] (spOf ⟨K, MC, T⟩ (F_truth j)) := cal_mk oj m F.kp b
    refine svs_cons (sv_ifC (tv_cmp (nomark _) (ev_var (d := .str "not") 2 rfl (ev_str (opw_eqS ⟨_, rfl, fun e => absurd e (by decide +kernel), fun _ => svs_nil ?_⟩)))))
    refine svs_cons (sv_ifC (tv_cmp (nomark _) (ev_var (d := .str "not") 2 rfl (ev_str (opw_eqS ⟨_, rfl, fun e => absurd e (by decide +kernel), fun _ => svs_nil ?_⟩)))))
    refine svs_cons (sv_ifC (tv_cmp (nomark _) (ev_var (d := .str "not") 2 rfl (ev_str (opw_eqS ⟨_, rfl, fun _ => ?_, fun e => absurd e (by decide +kernel)⟩)))))
    refine svs_cons (sv_as 4 ?_ c_truth_of.nd)
    refine ev_cal G (hr.mono (by omega)) (av_cons (ev_ix (fun _ _ => rfl) (ev_var (d := .tup [.str "not", t.d]) 0 rfl (ev_int (xw_tup atI1 (av_cons (ev_var (d := .ref p) 1 rfl (av_nil ⟨⟨⟨t, p, vs⟩, dj, sm, hv⟩, [], rfl, List.Perm.refl _, ?_, fun _ _ _ _ z => z.elim⟩))))))))
    rintro d η' ⟨rfl, rfl⟩
    show SVs _ _ [some (.tup [.str "not", t.d]), some (.ref p), some (.str "not"), none, some (bD (t.tv (valOf vs)))] [(p, .dic (kvD vs))] _
    refine svs_cons (sv_ret (ev_ifC (tv_cmp (nomark _) (ev_var (d := bD (t.tv (valOf vs))) 4 rfl (ev_non (opw_isN ⟨_, rfl, fun e => ?_, fun e => ?_⟩))))))
    · rw [isN_bD, Option.isNone_iff_eq_none] at e
      exact ev_non (lose_id ⟨by show D.non = bD ((t.tv (valOf vs)).map _); rw [e]; rfl, rfl⟩)
    · rw [isN_bD] at e
      obtain ⟨k, ek⟩ : ∃ k, t.tv (valOf vs) = some k := by
        cases h : t.tv (valOf vs) with
        | none => rw [h] at e; cases e
        | some i => exact ⟨i, rfl⟩
      exact ev_not (ev_var (d := .bl k) 4 (by rw [ek]; rfl) ⟨k, rfl, lose_id ⟨by show D.bl (!k) = bD ((t.tv (valOf vs)).map _); rw [ek]; rfl, rfl⟩⟩)
  | bin a t u =>
    obtain ⟨j, ej, oj, dj⟩ := ih (.bin a t u) t hd List.mem_cons_self
    obtain ⟨j', ej', oj', dj'⟩ := ih (.bin a t u) u hd (List.mem_cons_of_mem _ List.mem_cons_self)
    obtain rfl : j' = j := by omega
    have G : Cal P w K mg base (j' + 2) "truth_of" ["tree", "values"] (spOf ⟨K, MC, T⟩ (F_truth j')) := cal_mk oj m F.kp b
    have n1 : (if a then ("and" : Str) else "or") ≠ "within" ∧ (if a then ("and" : Str) else "or") ≠ "missing" ∧ (if a then ("and" : Str) else "or") ≠ "not" ∧ inS? (some (if a then ("and" : Str) else "or")) ["and", "or"] = true ∧ decide ((if a then ("and" : Str) else "or") = "or") = !a := by cases a <;> decide +kernel
    obtain ⟨n1, n2, n3, n4, n5⟩ := n1
    refine svs_cons (sv_ifC (tv_cmp (nomark _) (ev_var (d := .str (if a then "and" else "or")) 2 rfl (ev_str (opw_eqS ⟨_, rfl, fun e => absurd (of_decide_eq_true e) n1, fun _ => svs_nil ?_⟩)))))
    refine svs_cons (sv_ifC (tv_cmp (nomark _) (ev_var (d := .str (if a then "and" else "or")) 2 rfl (ev_str (opw_eqS ⟨_, rfl, fun e => absurd (of_decide_eq_true e) n2, fun _ => svs_nil ?_⟩)))))
    refine svs_cons (sv_ifC (tv_cmp (nomark _) (ev_var (d := .str (if a then "and" else "or")) 2 rfl (ev_str (opw_eqS ⟨_, rfl, fun e => absurd (of_decide_eq_true e) n3, fun _ => svs_nil ?_⟩)))))
    refine svs_cons (sv_ifC (tv_cmp rfl (ev_var (d := .str (if a then "and" else "or")) 2 rfl (ev_lit (.tup ((["and", "or"] : List Str).map D.str)) (opw_inTS (o := some (if a then "and" else "or")) ⟨_, rfl, fun _ => ?_, fun e => absurd (n4.symm.trans e) Bool.noConfusion⟩)))))
    refine svs_cons (sv_ret (ev_cal GB hr1 (av_cons (ev_cal G (hr.mono (by omega)) (av_cons (ev_ix (fun _ _ => rfl) (ev_var (d := .tup [.str (if a then "and" else "or"), t.d, u.d]) 0 rfl (ev_int (xw_tup atI1 (av_cons (ev_var (d := .ref p) 1 rfl (av_nil ⟨⟨⟨t, p, vs⟩, dj, sm.1, fun c hc => hv c (List.mem_append_left _ hc)⟩, [], rfl, List.Perm.refl _, ?_, fun _ _ _ _ z => z.elim⟩))))))))))))
    rintro d η' ⟨rfl, rfl⟩
    refine av_cons (ev_cal G (hr.mono (by omega)) (av_cons (ev_ix (fun _ _ => rfl) (ev_var (d := .tup [.str (if a then "and" else "or"), t.d, u.d]) 0 rfl (ev_int (xw_tup atI2 (av_cons (ev_var (d := .ref p) 1 rfl (av_nil ⟨⟨⟨u, p, vs⟩, dj', sm.2, fun c hc => hv c (List.mem_append_right _ hc)⟩, [], rfl, List.Perm.refl _, ?_, fun _ _ _ _ z => z.elim⟩)))))))))
    rintro d η' ⟨rfl, rfl⟩
    refine av_cons (ev_cmp (nomark _) (ev_var (d := .str (if a then "and" else "or")) 2 rfl (ev_str (opw_eqS (av_nil ⟨(t.tv (valOf vs), u.tv (valOf vs), decide ((if a then ("and" : Str) else "or") = "or")), [(p, .dic (kvD vs))], rfl, List.Perm.refl _, ?_, fun _ _ _ _ z => z.elim⟩)))))
    rintro d η' ⟨rfl, rfl⟩
    rw [n5]
    exact lose_id ⟨rfl, rfl⟩
  | always =>
    refine svs_cons (sv_ifC (tv_cmp (nomark _) (ev_var (d := .str "always") 2 rfl (ev_str (opw_eqS ⟨_, rfl, fun e => absurd e (by decide +kernel), fun _ => svs_nil ?_⟩)))))
    refine svs_cons (sv_ifC (tv_cmp (nomark _) (ev_var (d := .str "always") 2 rfl (ev_str (opw_eqS ⟨_, rfl, fun e => absurd e (by decide +kernel), fun _ => svs_nil ?_⟩)))))
    refine svs_cons (sv_ifC (tv_cmp (nomark _) (ev_var (d := .str "always") 2 rfl (ev_str (opw_eqS ⟨_, rfl, fun e => absurd e (by decide +kernel), fun _ => svs_nil ?_⟩)))))
    refine svs_cons (sv_ifC (tv_cmp rfl (ev_var (d := .str "always") 2 rfl (ev_lit (.tup ((["and", "or"] : List Str).map D.str)) (opw_inTS (o := some "always") ⟨_, rfl, fun e => absurd e (by decide +kernel), fun _ => svs_nil ?_⟩)))))
    exact svs_cons (sv_ret (ev_cmp (nomark _) (ev_var (d := .str "always") 2 rfl (ev_str (opw_eqS (lose_id ⟨by show D.bl (decide (("always" : Str) = "always")) = D.bl true; simp, rfl⟩))))))
  | never =>
    refine svs_cons (sv_ifC (tv_cmp (nomark _) (ev_var (d := .str "never") 2 rfl (ev_str (opw_eqS ⟨_, rfl, fun e => absurd e (by decide +kernel), fun _ => svs_nil ?_⟩)))))
    refine svs_cons (sv_ifC (tv_cmp (nomark _) (ev_var (d := .str "never") 2 rfl (ev_str (opw_eqS ⟨_, rfl, fun e => absurd e (by decide +kernel), fun _ => svs_nil ?_⟩)))))
    refine svs_cons (sv_ifC (tv_cmp (nomark _) (ev_var (d := .str "never") 2 rfl (ev_str (opw_eqS ⟨_, rfl, fun e => absurd e (by decide +kernel), fun _ => svs_nil ?_⟩)))))
    refine svs_cons (sv_ifC (tv_cmp rfl (ev_var (d := .str "never") 2 rfl (ev_lit (.tup ((["and", "or"] : List Str).map D.str)) (opw_inTS (o := some "never") ⟨_, rfl, fun e => absurd e (by decide +kernel), fun _ => svs_nil ?_⟩)))))
    have ne : decide (("never" : Str) = "always") = false := by decide +kernel
    exact svs_cons (sv_ret (ev_cmp (nomark _) (ev_var (d := .str "never") 2 rfl (ev_str (opw_eqS (lose_id ⟨by rw [ne]; rfl, rfl⟩))))))
theorem k_truth (F : Fun K "truth_of" "truth_of" s_truth_of f fd) (m : mg "truth_of" = some (.ref f)) (b : Binds K fd ["tree", "values"] []) (GB : Cal P w K mg base 1 "both" ["one", "other", "strong"] (spOf ⟨K, MC, T⟩ F_both)) (GH : Cal P w K mg base 1 "has_number" ["parts", "number"] (spOf ⟨K, MC, T⟩ F_hasn)) : ∀ n : Nat, FnOk P w K mg base CX0 (n + 2) f fd ["tree", "values"] (spOf ⟨K, MC, T⟩ (F_truth n)) := by
  intro n
  induction n with
  | zero => exact truth_body F m b GB GH fun t u h1 h2 => by have := (part_dep h2).1; omega
  | succ n ih => exact truth_body F m b GB GH fun t u h1 h2 => ⟨n, rfl, ih, by have := (part_dep h2).1; omega⟩
end
end K85
end Sx

namespace Sx
namespace K85
open PySem PySem.Spec PyProof.Rows L2 TL
open LamX (Tabs TabS TabB ExtN)
/-! ### trees as data -/
theorem lay_str {x : Str} (h : ∀ c ∈ tl x, c < 0x110000) : (PyData.str x).canLay0 = true := by
  unfold PyData.canLay0 PyData.strOk
  rw [← Array.all_toList, List.all_eq_true]
  exact fun c hc => decide_eq_true (h c hc)
theorem letters_low : ∀ c ∈ letters.cps.toList, c < 0x110000 := by decide +kernel
theorem name_low {x : Str} (h : isName x = true) : ∀ c ∈ tl x, c < 0x110000 := by
  unfold isName at h
  simp only [Bool.and_eq_true, List.all_eq_true, decide_eq_true_eq] at h
  exact fun c hc => letters_low c (h.2.2 c hc)
def Tr.p : Tr → PyData
  | .always => .tuple [.str "always"]
  | .never => .tuple [.str "never"]
  | .miss c => .tuple [.str "missing", .str c]
  | .wi c ps => .tuple [.str "within", .str c, .tuple (ps.map pairP)]
  | .nt t => .tuple [.str "not", t.p]
  | .bin a t u => .tuple [.str (if a then "and" else "or"), t.p, u.p]
theorem pd_tr {η : Sto} : ∀ t : Tr, PdAt η t.d t.p
  | .always => .tup (.cons (.str _) .nil)
  | .never => .tup (.cons (.str _) .nil)
  | .miss c => .tup (.cons (.str _) (.cons (.str _) .nil))
  | .wi c ps => .tup (.cons (.str _) (.cons (.str _) (.cons (pd_parts ps) .nil)))
  | .nt t => .tup (.cons (.str _) (.cons (pd_tr t) .nil))
  | .bin a t u => .tup (.cons (.str _) (.cons (pd_tr t) (.cons (pd_tr u) .nil)))
theorem low_w {w : Str} (h : (tl w).all (· < 0x110000) = true) : (PyData.str w).canLay0 = true := lay_str fun c hc => by
  rw [List.all_eq_true] at h
  exact of_decide_eq_true (h c hc)
theorem canLay2 (x y : PyData) : (PyData.tuple [x, y]).canLay0 = (x.canLay0 && y.canLay0) := by simp [PyData.canLay0, PyData.canLayAll0]
theorem canLay3 (x y z : PyData) : (PyData.tuple [x, y, z]).canLay0 = (x.canLay0 && (y.canLay0 && z.canLay0)) := by simp [PyData.canLay0, PyData.canLayAll0]
theorem lay_tr : ∀ t : Tr, t.good → t.p.canLay0 = true
  | .always, _ => by decide +kernel
  | .never, _ => by decide +kernel
  | .miss c, h => by
    show (PyData.tuple [_, _]).canLay0 = true
    rw [canLay2, lay_str (name_low h), low_w (by decide +kernel)]
    rfl
  | .wi c ps, h => by
    show (PyData.tuple [_, _, _]).canLay0 = true
    have : (PyData.tuple (ps.map pairP)).canLay0 = true := by
      unfold PyData.canLay0
      exact canLay_map (fun a => pairP_lay) ps
    rw [canLay3, lay_str (name_low h.1), low_w (by decide +kernel), this]
    rfl
  | .nt t, h => by
    show (PyData.tuple [_, _]).canLay0 = true
    rw [canLay2, lay_tr t h, low_w (by decide +kernel)]
    rfl
  | .bin a t u, h => by
    show (PyData.tuple [_, _, _]).canLay0 = true
    rw [canLay3, lay_tr t h.1, lay_tr u h.2, low_w (by cases a <;> decide +kernel)]
    rfl
theorem lay_trs : ∀ ts : List Tr, (∀ t ∈ ts, t.good) → PyData.canLayAll0 (ts.map Tr.p) = true
  | [], _ => by simp [PyData.canLayAll0]
  | t :: ts, h => by
    show PyData.canLayAll0 (t.p :: ts.map Tr.p) = true
    unfold PyData.canLayAll0
    rw [lay_tr t (h t List.mem_cons_self), lay_trs ts fun u hu => h u (List.mem_cons_of_mem _ hu)]
    rfl
theorem depth2 (x y : PyData) : (PyData.tuple [x, y]).depth = 1 + max x.depth y.depth := by simp [PyData.depth, PyData.depthAll]; omega
theorem depth3 (x y z : PyData) : (PyData.tuple [x, y, z]).depth = 1 + max x.depth (max y.depth z.depth) := by simp [PyData.depth, PyData.depthAll]; omega
theorem depth_s (x : Str) : (PyData.str x).depth = 0 := by simp [PyData.depth]
theorem depth_tr : ∀ t : Tr, t.p.depth ≤ t.dep + 3
  | .always => by decide +kernel
  | .never => by decide +kernel
  | .miss c => by
    show (PyData.tuple [_, _]).depth ≤ _
    rw [depth2, depth_s, depth_s]
    omega
  | .wi c ps => by
    show (PyData.tuple [_, _, _]).depth ≤ _
    have : PyData.depthAll (ps.map pairP) ≤ 1 := depth_map (fun a => Nat.le_of_eq pairP_depth) ps
    rw [depth3, depth_s, depth_s]
    simp only [PyData.depth]
    omega
  | .nt t => by
    show (PyData.tuple [_, _]).depth ≤ t.dep + 1 + 3
    have := depth_tr t
    rw [depth2, depth_s]
    omega
  | .bin a t u => by
    show (PyData.tuple [_, _, _]).depth ≤ max t.dep u.dep + 1 + 3
    have := depth_tr t
    have := depth_tr u
    rw [depth3, depth_s]
    omega
/-! the words of a tree -/
theorem ws_size (t : Tr) : t.ws.length ≤ 3 * t.size := by
  induction t with
  | nt t ih => simp only [Tr.ws, Tr.size, List.length_cons]; omega
  | bin a t u ih1 ih2 => simp only [Tr.ws, Tr.size, List.length_cons, List.length_append]; omega
  | _ => simp [Tr.ws, Tr.size]
def wsOf (ts : List Tr) : List Str := ts.reverse.flatMap Tr.ws
def szOf (ts : List Tr) : Nat := (ts.map Tr.size).sum
theorem wsOf_snoc (ts : List Tr) (u : Tr) : wsOf (ts ++ [u]) = u.ws ++ wsOf ts := by simp [wsOf]
theorem szOf_snoc (ts : List Tr) (u : Tr) : szOf (ts ++ [u]) = szOf ts + u.size := by simp [szOf]
theorem wsOf_len : ∀ ts : List Tr, ts.length ≤ (wsOf ts).length := by
  intro ts
  unfold wsOf
  rw [← List.length_reverse]
  generalize ts.reverse = us
  induction us with
  | nil => exact Nat.zero_le _
  | cons u us ih =>
    have := ws_ne u
    rw [List.flatMap_cons, List.length_append, List.length_cons]
    omega
theorem size_pos (t : Tr) : 1 ≤ t.size := by cases t <;> simp [Tr.size]
theorem ws_short {t : Tr} (h : t.good) : ∀ x ∈ t.ws, x.length ≤ 3101 := by
  have sh : ∀ {w : Str}, (tl w).length ≤ 3101 → w.length ≤ 3101 := fun h => h
  induction t with
  | nt t ih =>
    intro x hx
    rcases List.mem_cons.mp hx with rfl | hx
    · decide
    · exact ih h x hx
  | bin a t u ih1 ih2 =>
    intro x hx
    rcases List.mem_cons.mp hx with rfl | hx
    · cases a <;> decide
    · rcases List.mem_append.mp hx with hx | hx
      · exact ih1 h.1 x hx
      · exact ih2 h.2 x hx
  | always =>
    intro x hx
    rw [List.mem_singleton.mp hx]
    decide
  | never =>
    intro x hx
    rw [List.mem_singleton.mp hx]
    decide
  | miss c =>
    intro x hx
    simp only [Tr.ws, List.mem_cons, List.not_mem_nil, or_false] at hx
    rcases hx with rfl | rfl
    · decide
    · have := name_len h; omega
  | wi c ps =>
    intro x hx
    simp only [Tr.ws, List.mem_cons, List.not_mem_nil, or_false] at hx
    rcases hx with rfl | rfl | rfl
    · decide
    · have := name_len h.1; omega
    · have := partsT_small h.2.okPs
      have := h.2.len
      omega
theorem sum_le {c : Nat} : ∀ {xs : List Nat}, (∀ x ∈ xs, x ≤ c) → xs.sum ≤ c * xs.length
  | [], _ => Nat.zero_le _
  | x :: xs, h => by
    have h1 := h x List.mem_cons_self
    have h2 := sum_le fun y hy => h y (List.mem_cons_of_mem _ hy)
    rw [List.sum_cons, List.length_cons, Nat.mul_add]
    omega
theorem ws_sum {t : Tr} (h : t.good) (hs : t.size ≤ 1000) : (t.ws.map (·.length)).sum ≤ 9303000 := by
  have h1 : (t.ws.map (·.length)).sum ≤ 3101 * (t.ws.map (·.length)).length := sum_le fun x hx => by
    obtain ⟨z, hz, rfl⟩ := List.mem_map.mp hx
    exact ws_short h z hz
  have h2 := ws_size t
  rw [List.length_map] at h1
  omega
section
variable {P : Program} {w : World} {K : PySem.W.Frag} {mg : Str → Option Value} {base : Heap} {MC : Addr → Prop} {T : List (Addr × Str)} {f fI C CR g : Addr} {fd fdI : FuncData}
/-- ==, of equal trees -/
def F_feq (C : Addr) : FS {t : Tr // t.good ∧ t.dep ≤ 150} := { args := fun t => [filD C t.1, filD C t.1], st := fun _ => [], ret := fun s d η => d = .bl true ∧ η = [] }
theorem un200 {A : Around} {k : Nat} (hr : Room k A) : A.units + 200 < cLine := by
  have := hr.un
  omega
theorem k_feq (F : Fun K "__eq__" "Filter.__eq__" s_Filteru_equ f fd) (hc : Cls K C) (hn : NoAttr K C "tree") (mC : mg "Filter" = some (.ref C)) (mi : mg "isinstance" = none) (oc : OfCls K C) (hk : PySem.W.kitOne K (.ref C) (.ref C) = some true) :
    FnOk P w K mg base CX0 1 f fd ["self", "other"] (spOf ⟨K, MC, T⟩ (F_feq C)) :=
  ok_of _ F c_Filteru_equ (fun _ => rfl) fun a cdv A outer s H E hr => by
    obtain ⟨t, hg, hd⟩ := a
    show SVs _ _ [some (filD C t), some (filD C t)] [] _
    refine svs_cons (sv_ret (ev_and (ev_callB mi boot_isinstance (av_cons (ev_var (d := filD C t) 1 rfl (av_cons (ev_glob (v := .ref C) (d := .ref C) mC rfl (fun _ => at_ref.mpr rfl) (av_nil (cw_isi (.ins _ oc) (.own C) hk ⟨true, rfl, fun _ => ?_, fun z => nomatch z⟩)))))))))
    have h1 := depth_tr t
    refine ev_one (ev_cmp (nomark _) (ev_fld (ev_var (d := filD C t) 0 rfl ⟨C, _, t.d, rfl, hc, hn, rfl, ev_fld (ev_var (d := filD C t) 1 rfl ⟨C, _, t.d, rfl, hc, hn, rfl, opw_eqDd (un200 hr) (by omega) (pd_tr t) (pd_tr t) (lay_tr t hg) (lay_tr t hg) (lose_nil ⟨?_, rfl⟩)⟩)⟩)))
    rw [PySem.SeqAt.eqv_refl t.p (lay_tr t hg)]
/-- calling -/
def F_fcall (n : Nat) (C : Addr) : FS {a : TvA // a.t.dep ≤ n ∧ a.t.small ∧ ∀ c ∈ a.t.cols, ∃ o, look a.vs c = some o} := { args := fun a => [filD C a.1.t, .ref a.1.p], st := fun a => a.1.st, ret := fun a d η => d = bD (a.1.t.tv (valOf a.1.vs)) ∧ η = a.1.st }
theorem k_fcall {n : Nat} (F : Fun K "__call__" "Filter.__call__" s_Filteru_callu f fd) (G : Cal P w K mg base (n + 2) "truth_of" ["tree", "values"] (spOf ⟨K, MC, T⟩ (F_truth n))) (hc : Cls K C) (hn : NoAttr K C "tree") : FnOk P w K mg base CX0 (n + 3) f fd ["self", "values"] (spOf ⟨K, MC, T⟩ (F_fcall n C)) :=
  ok_of _ F c_Filteru_callu (fun _ => rfl) fun a cdv A outer s H E hr => by
    obtain ⟨⟨t, p, vs⟩, h⟩ := a
    show SVs _ _ [some (filD C t), some (.ref p)] [(p, .dic (kvD vs))] _
    refine svs_cons (sv_ret (ev_cal G hr (av_cons (ev_fld (ev_var (d := filD C t) 0 rfl ⟨C, _, t.d, rfl, hc, hn, rfl, av_cons (ev_var (d := .ref p) 1 rfl (av_nil ⟨⟨⟨t, p, vs⟩, h⟩, [], rfl, List.Perm.refl _, ?_, fun _ _ _ _ z => z.elim⟩))⟩)))))
    rintro d η' ⟨rfl, rfl⟩
    exact lose_id ⟨rfl, List.append_nil _⟩
/-- tree_words -/
abbrev okW : Type := {t : Tr // t.good ∧ t.size ≤ 1000}
def signT : List (Str × Str) := [("and", "&"), ("or", "|")]
def F_twords : FS okW := { args := fun t => [t.1.d], st := fun _ => [], ret := fun t d η => ∃ q, d = .ref q ∧ η = [(q, .lst (t.1.ws.map D.str))] }
def twI (t : Tr) (m : Nat) (ρ : Rho) (η : Sto) : Prop := ∃ (W : List Str) (ts : List Tr) (p q : Addr) (v : Option D), ρ = [some t.d, some (.ref p), some (.ref q), v] ∧ η = [(q, .lst (ts.map Tr.d)), (p, .lst (W.map D.str))] ∧ W ++ wsOf ts = t.ws ∧ m = szOf ts ∧ ∀ u ∈ ts, u.good
theorem k_twords (F : Fun K "tree_words" "tree_words" s_tree_words f fd) (GP : Cal P w K mg base 2 "parts_text" ["parts"] (spOf ⟨K, MC, T⟩ F_parts_text)) (GS : GDic K w mg "SIGNS_texts" signT) : FnOk P w K mg base CX0 3 f fd ["tree"] (spOf ⟨K, MC, T⟩ F_twords) :=
  ok_of _ F c_tree_words (fun _ => rfl) fun a cdv A outer s H E hr => by
    obtain ⟨t, hg, hs⟩ := a
    have hu := un200 hr
    have wl := ws_size t
    show SVs _ _ [some t.d, none, none, none] [] _
    refine svs_cons (sv_as 1 (ev_lst (av_nil ⟨Nat.zero_le _, fun p => ?_⟩)) c_tree_words.nd)
    refine svs_cons (sv_as 2 (ev_lst (av_cons (ev_var (d := t.d) 0 rfl (av_nil ⟨by rw [sizeLine_eq]; show 1 ≤ 16777216; decide, fun q => ?_⟩)))) c_tree_words.nd)
    refine svs_cons (sv_while PassesOwn.never (twI t) (szOf [t]) ⟨[], [t], p, q, none, rfl, rfl, by simp [wsOf], rfl, fun u hu => by rw [List.mem_singleton.mp hu]; exact hg⟩ ?_)
    rintro m ρ' η' ⟨W, ts, p, q, v, rfl, rfl, ew, rfl, gs⟩
    refine tv_cmp (nomark _) (ev_var (d := .ref q) 2 rfl (ev_lst (av_nil ⟨Nat.zero_le _, fun r => ?_⟩)))
    refine opw_neNil (xs := ts.map Tr.p) hu (List.mem_cons_of_mem _ List.mem_cons_self) List.mem_cons_self (pd_map (f := Tr.d) (g := Tr.p) (fun a => pd_tr a) ts) (lay_trs ts gs) ⟨_, rfl, fun e => ?_, fun e => ?_⟩
    · refine SVs.drop (List.sublist_cons_self _ _) (SVs.nd fun nd => ?_)
      have ne : ts ≠ [] := fun z => by rw [z] at e; cases e
      obtain ⟨us, u, rfl⟩ : ∃ us u, ts = us ++ [u] := ⟨ts.dropLast, ts.getLast ne, (List.dropLast_concat_getLast ne).symm⟩
      rw [wsOf_snoc] at ew
      have gu : u.good := gs u (by simp)
      have gus : ∀ x ∈ us, x.good := fun x hx => gs x (by simp [hx])
      have lw : W.length + u.ws.length ≤ 3000 := by
        have := congrArg List.length ew
        simp only [List.length_append] at this
        omega
      have lu : us.length ≤ 3000 := by
        have h1 := wsOf_len us
        have := congrArg List.length ew
        simp only [List.length_append] at this
        omega
      rw [szOf_snoc]
      refine svs_cons (sv_as 3 (ev_pop (ev_var (d := .ref q) 2 rfl ⟨.inl ⟨rfl, _, List.mem_cons_self⟩, mw_pop (ds := us.map Tr.d) (d := u.d) (by rw [List.map_append]; exact List.mem_cons_self) ?_⟩)) c_tree_words.nd)
      rw [putM_here]
      show SVs _ _ [some t.d, some (.ref p), some (.ref q), some u.d] _ _
      have nd2 : ((([(q, Mo.lst (us.map Tr.d)), (p, .lst (W.map D.str))] : Sto)).map (·.1)).Nodup := nd
      have fin : ∀ (zs : List Str), W ++ zs ++ wsOf us = t.ws → ∃ m', m' < szOf us + u.size ∧ twI t m' [some t.d, some (.ref p), some (.ref q), some u.d] [(q, .lst (us.map Tr.d)), (p, .lst ((W ++ zs).map D.str))] := fun zs hz => ⟨szOf us, by have := size_pos u; omega, W ++ zs, us, p, q, _, rfl, rfl, hz, rfl, gus⟩
      have app : ∀ {zs : List Str}, u.ws = zs → W ++ zs ++ wsOf us = t.ws := fun h => by rw [← h, List.append_assoc]; exact ew
      rw [u.d_is]
      cases u with
      | wi c ps =>
        refine svs_cons (sv_matchC (ev_ix (fun _ _ => rfl) (ev_var (d := .tup [.str "within", .str c, partsD ps]) 3 rfl (ev_int (xw_tup atI0 ⟨"within", rfl, mc_here ?_⟩)))))
        refine svs_cons (sv_ex (ev_extend (ev_var (d := .ref p) 1 rfl ⟨.inl ⟨rfl, _, List.mem_cons_of_mem _ List.mem_cons_self⟩, av_cons (ev_lst (av_cons (ev_str (av_cons (ev_ix (fun _ _ => rfl) (ev_var (d := .tup [.str "within", .str c, partsD ps]) 3 rfl (ev_int (xw_tup atI1 (av_cons (ev_cal0 GP (hr.mono (by omega)) (av_cons (ev_ix (fun _ _ => rfl) (ev_var (d := .tup [.str "within", .str c, partsD ps]) 3 rfl (ev_int (xw_tup atI2 (av_nil ⟨⟨ps, gu.2.okPs⟩, rfl, rfl, ?_, fun _ _ _ _ z => z⟩))))))))))))))))⟩)))
        rintro d η' ⟨rfl, rfl⟩
        refine av_nil ⟨by rw [sizeLine_eq]; show 3 ≤ 16777216; decide, fun r2 => av_nil (MtW.nd fun nd3 => mw_extend (List.mem_cons_of_mem _ (List.mem_cons_of_mem _ List.mem_cons_self)) List.mem_cons_self ?_ ?_)⟩
        · rw [sizeLine_eq, List.length_map]
          show _ + 3 ≤ _
          have : (Tr.wi c ps).ws.length = 3 := rfl
          omega
        · show SVs _ _ _ (putM p _ ([(r2, _), (q, _)] ++ [(p, _)])) _
          rw [putM_lst nd3]
          refine SVs.drop (List.sublist_cons_self _ _) (svs_nil (svs_nil ?_))
          have := fin ["in", c, partsT ps] (app rfl)
          rw [List.map_append] at this
          exact this
      | miss c =>
        refine svs_cons (sv_matchC (ev_ix (fun _ _ => rfl) (ev_var (d := .tup [.str "missing", .str c]) 3 rfl (ev_int (xw_tup atI0 ⟨"missing", rfl, mc_skip (mc_here ?_)⟩)))))
        refine svs_cons (sv_ex (ev_extend (ev_var (d := .ref p) 1 rfl ⟨.inl ⟨rfl, _, List.mem_cons_of_mem _ List.mem_cons_self⟩, av_cons (ev_lst (av_cons (ev_str (av_cons (ev_ix (fun _ _ => rfl) (ev_var (d := .tup [.str "missing", .str c]) 3 rfl (ev_int (xw_tup atI1 (av_nil ⟨by rw [sizeLine_eq]; show 2 ≤ 16777216; decide, fun r2 => av_nil (MtW.nd fun nd3 => mw_extend (List.mem_cons_of_mem _ (List.mem_cons_of_mem _ List.mem_cons_self)) List.mem_cons_self ?_ ?_)⟩)))))))))⟩)))
        · rw [sizeLine_eq, List.length_map]
          show _ + 2 ≤ _
          omega
        · show SVs _ _ _ (putM p _ ([(r2, _), (q, _)] ++ [(p, _)])) _
          rw [putM_lst nd3]
          refine SVs.drop (List.sublist_cons_self _ _) (svs_nil (svs_nil ?_))
          have := fin ["missing", c] (app rfl)
          rw [List.map_append] at this
          exact this
      | nt u =>
        refine svs_cons (sv_matchC (ev_ix (fun _ _ => rfl) (ev_var (d := .tup [.str "not", u.d]) 3 rfl (ev_int (xw_tup atI0 ⟨"not", rfl, mc_skip (mc_skip (mc_here ?_))⟩)))))
        refine svs_cons (sv_ex (ev_append (ev_var (d := .ref p) 1 rfl ⟨.inl ⟨rfl, _, List.mem_cons_of_mem _ List.mem_cons_self⟩, av_cons (ev_str (av_nil (mw_append (List.mem_cons_of_mem _ List.mem_cons_self) ?_ ?_)))⟩)))
        · rw [sizeLine_eq, List.length_map]
          omega
        rw [putM_2 nd2]
        refine svs_cons (sv_ex (ev_append (ev_var (d := .ref q) 2 rfl ⟨.inl ⟨rfl, _, List.mem_cons_self⟩, av_cons (ev_ix (fun _ _ => rfl) (ev_var (d := .tup [.str "not", u.d]) 3 rfl (ev_int (xw_tup atI1 (av_nil (mw_append List.mem_cons_self ?_ ?_))))))⟩)))
        · rw [sizeLine_eq, List.length_map]
          omega
        rw [putM_here]
        refine svs_nil (svs_nil ⟨szOf (us ++ [u]), by rw [szOf_snoc]; show _ < _ + (u.size + 1); omega, W ++ [("~" : Str)], us ++ [u], p, q, _, rfl, ?_, ?_, rfl, ?_⟩)
        · simp
        · rw [wsOf_snoc, ← ew]
          simp [Tr.ws]
        · intro x hx
          rcases List.mem_append.mp hx with hx | hx
          · exact gus x hx
          · rw [List.mem_singleton.mp hx]
            exact gu
      | bin a u1 u2 =>
        have sg : (if a then ("and" : Str) else "or", sgn a) ∈ signT := by cases a <;> simp [signT, sgn]
        refine svs_cons (sv_matchC (ev_ix (fun _ _ => rfl) (ev_var (d := .tup [.str (if a then "and" else "or"), u1.d, u2.d]) 3 rfl (ev_int (xw_tup atI0 ⟨if a then "and" else "or", rfl, mc_skip (mc_skip (mc_skip (mc_here ?_ (by cases a <;> decide +kernel)) (by cases a <;> decide +kernel)) (by cases a <;> decide +kernel)) (by cases a <;> decide +kernel)⟩)))))
        refine svs_cons (sv_ex (ev_append (ev_var (d := .ref p) 1 rfl ⟨.inl ⟨rfl, _, List.mem_cons_of_mem _ List.mem_cons_self⟩, av_cons (ev_gdic GS (fun _ _ => rfl) (ev_ix (fun _ _ => rfl) (ev_var (d := .tup [.str (if a then "and" else "or"), u1.d, u2.d]) 3 rfl (ev_int (xw_tup atI0 ⟨_, sgn a, rfl, sg, av_nil (mw_append (List.mem_cons_of_mem _ List.mem_cons_self) ?_ ?_)⟩)))))⟩)))
        · rw [sizeLine_eq, List.length_map]
          omega
        rw [putM_2 nd2]
        refine svs_cons (sv_ex (ev_extend (ev_var (d := .ref q) 2 rfl ⟨.inl ⟨rfl, _, List.mem_cons_self⟩, av_cons (ev_lst (av_cons (ev_ix (fun _ _ => rfl) (ev_var (d := .tup [.str (if a then "and" else "or"), u1.d, u2.d]) 3 rfl (ev_int (xw_tup atI2 (av_cons (ev_ix (fun _ _ => rfl) (ev_var (d := .tup [.str (if a then "and" else "or"), u1.d, u2.d]) 3 rfl (ev_int (xw_tup atI1 (av_nil ⟨by rw [sizeLine_eq]; show 2 ≤ 16777216; decide, fun r2 => av_nil (MtW.nd fun nd3 => mw_extend (List.mem_cons_of_mem _ List.mem_cons_self) List.mem_cons_self ?_ ?_)⟩))))))))))))⟩)))
        · rw [sizeLine_eq, List.length_map]
          show _ + 2 ≤ _
          omega
        rw [putM_2 nd3]
        refine SVs.drop (List.sublist_cons_self _ _) (svs_nil (svs_nil ⟨szOf (us ++ [u2] ++ [u1]), by rw [szOf_snoc, szOf_snoc]; show _ < _ + (u1.size + u2.size + 1); omega, W ++ [sgn a], us ++ [u2] ++ [u1], p, q, _, rfl, ?_, ?_, rfl, ?_⟩))
        · simp
        · rw [wsOf_snoc, wsOf_snoc, ← ew]
          simp [Tr.ws]
        · intro x hx
          rcases List.mem_append.mp hx with hx | hx
          · rcases List.mem_append.mp hx with hx | hx
            · exact gus x hx
            · rw [List.mem_singleton.mp hx]
              exact gu.2
          · rw [List.mem_singleton.mp hx]
            exact gu.1
      | always =>
        refine svs_cons (sv_matchC (ev_ix (fun _ _ => rfl) (ev_var (d := .tup [.str "always"]) 3 rfl (ev_int (xw_tup atI0 ⟨"always", rfl, mc_skip (mc_skip (mc_skip (mc_skip (mc_here ?_))))⟩)))))
        refine svs_cons (sv_ex (ev_append (ev_var (d := .ref p) 1 rfl ⟨.inl ⟨rfl, _, List.mem_cons_of_mem _ List.mem_cons_self⟩, av_cons (ev_ix (fun _ _ => rfl) (ev_var (d := .tup [.str "always"]) 3 rfl (ev_int (xw_tup atI0 (av_nil (mw_append (List.mem_cons_of_mem _ List.mem_cons_self) ?_ ?_))))))⟩)))
        · rw [sizeLine_eq, List.length_map]
          omega
        rw [putM_2 nd2]
        refine svs_nil (svs_nil ?_)
        have := fin ["always"] (app rfl)
        rw [List.map_append] at this
        exact this
      | never =>
        refine svs_cons (sv_matchC (ev_ix (fun _ _ => rfl) (ev_var (d := .tup [.str "never"]) 3 rfl (ev_int (xw_tup atI0 ⟨"never", rfl, mc_skip (mc_skip (mc_skip (mc_skip (mc_here ?_))))⟩)))))
        refine svs_cons (sv_ex (ev_append (ev_var (d := .ref p) 1 rfl ⟨.inl ⟨rfl, _, List.mem_cons_of_mem _ List.mem_cons_self⟩, av_cons (ev_ix (fun _ _ => rfl) (ev_var (d := .tup [.str "never"]) 3 rfl (ev_int (xw_tup atI0 (av_nil (mw_append (List.mem_cons_of_mem _ List.mem_cons_self) ?_ ?_))))))⟩)))
        · rw [sizeLine_eq, List.length_map]
          omega
        rw [putM_2 nd2]
        refine svs_nil (svs_nil ?_)
        have := fin ["never"] (app rfl)
        rw [List.map_append] at this
        exact this
    · have e0 : ts = [] := by
        cases ts with
        | nil => rfl
        | cons x xs => cases e
      subst e0
      rw [wsOf, List.reverse_nil, List.flatMap_nil, List.append_nil] at ew
      rw [ew]
      exact svs_cons (sv_ret (ev_var (d := .ref p) 1 rfl (lose_sub ((List.sublist_cons_self _ _).trans (List.sublist_cons_self _ _)) ⟨p, rfl, rfl⟩)))
/-- show_filter -/
def F_showf (C : Addr) : FS okW := { args := fun t => [filD C t.1], st := fun _ => [], ret := fun t d η => d = .str (Txt.join " " t.1.ws) ∧ η = [] }
theorem k_showf (F : Fun K "show_filter" "show_filter" s_show_filter f fd) (G : Cal P w K mg base 3 "tree_words" ["tree"] (spOf ⟨K, MC, T⟩ F_twords)) (hc : Cls K C) (hn : NoAttr K C "tree") : FnOk P w K mg base CX0 4 f fd ["where"] (spOf ⟨K, MC, T⟩ (F_showf C)) :=
  ok_of _ F c_show_filter (fun _ => rfl) fun a cdv A outer s H E hr => by
    obtain ⟨t, hg, hs⟩ := a
    have h1 := ws_sum hg hs
    have h2 := ws_size t
    show SVs _ _ [some (filD C t)] [] _
    refine svs_cons (sv_ret (ev_join (ev_str ⟨rfl, av_cons (ev_cal0 G hr (av_cons (ev_fld (ev_var (d := filD C t) 0 rfl ⟨C, _, t.d, rfl, hc, hn, rfl, av_nil ⟨⟨t, hg, hs⟩, rfl, rfl, ?_, fun _ _ _ _ z => z⟩⟩))))⟩)))
    rintro d η' ⟨q, rfl, rfl⟩
    refine av_nil (mw_join List.mem_cons_self ?_ (lose_nil ⟨rfl, rfl⟩))
    have : ((" ") : Str).length = 1 := by decide
    rw [this]
    show (t.ws.map (·.length)).sum + t.ws.length * 1 ≤ _
    omega
end
end K85
end Sx

namespace Sx
namespace K85
open PySem PySem.Spec PyProof.Rows L2 TL
open LamX (Tabs TabS TabB ExtN)
/-- a Words, of which xs are left -/
structure Wst.At (s : Wst) (xs : List Str) : Prop where
  ok : s.ok
  full : s.n = s.ws.length
  len : s.i + xs.length = s.ws.length
  left : s.ws.drop s.i = xs
theorem Wst.At.cur {s : Wst} {x : Str} {r : List Str} (h : s.At (x :: r)) : s.cur = some x := by
  have h1 := h.len
  rw [List.length_cons] at h1
  unfold Wst.cur
  rw [h.full, if_pos (by omega)]
  have := congrArg (·[0]?) h.left
  simpa using this
theorem Wst.At.none {s : Wst} (h : s.At []) : s.cur = none := by
  have h1 := h.len
  rw [List.length_nil] at h1
  unfold Wst.cur
  rw [h.full, if_neg (by omega)]
theorem Wst.At.nxt {s : Wst} {x : Str} {r : List Str} (h : s.At (x :: r)) : s.nxt.At r := by
  refine ⟨h.ok.nxt, h.full, ?_, ?_⟩
  · have := h.len
    rw [List.length_cons] at this
    show s.i + 1 + _ = s.ws.length
    omega
  · show s.ws.drop (s.i + 1) = r
    rw [← List.drop_drop, h.left]
    rfl
def Wst.adv (s : Wst) (k : Nat) : Wst := { s with i := s.i + k }
theorem Wst.At.adv {s : Wst} : ∀ {xs r : List Str}, s.At (xs ++ r) → (s.adv xs.length).At r
  | [], r, h => h
  | x :: xs, r, h => by
    have := Wst.At.adv (s := s.nxt) (xs := xs) (r := r) h.nxt
    have e : s.nxt.adv xs.length = s.adv (x :: xs).length := by
      unfold Wst.nxt Wst.adv
      rw [List.length_cons, Nat.add_right_comm, Nat.add_assoc]
    rwa [e] at this
section
variable {P : Program} {w : World} {K : PySem.W.Frag} {mg : Str → Option Value} {base : Heap} {MC : Addr → Prop} {T : List (Addr × Str)} {f fI C CR W g : Addr} {fd fdI : FuncData}
structure WM2 (P : Program) (w : World) (K : PySem.W.Frag) (mg : Str → Option Value) (base : Heap) (MC : Addr → Prop) (T : List (Addr × Str)) (W : Addr) : Prop extends WMeths P w K mg base MC T W where
  nw : ∃ f, Meth K W "need_word" f ∧ BMeth K W "need_word" f ∧ FnR P w K mg base CX0 2 f (spStar ⟨K, MC, T⟩ (F_needword W) 1)
  nn : ∃ f fd, Meth K W "need_name" f ∧ FnOk P w K mg base CX0 2 f fd ["self"] (spOf ⟨K, MC, T⟩ (F_needname W)) ∧ Binds K fd ["self"] []
section
variable {y : Sy} {o e : Expr} {es : List Expr} {ρ : Rho} {η : Sto} {Q : D → Sto → Prop} {pos p1 p2 : Pos}
theorem ev_nname {pl : Sem Bool} (M : WM2 y.X.prog y.X.w y.X.K y.X.mg y.X.base y.MC y.T W) (hr : Room 2 y.X.A) (h : EV y o ρ η fun d η1 => ∃ (s : Wst) (ηr : Sto) (x : Str) (r : List Str), s.At (x :: r) ∧ isName x = true ∧ d = .ref s.z ∧ η1.Perm (s.st W ++ ηr) ∧ Q (.str x) (s.nxt.st W ++ ηr))
    (ht : eval (.Call (.Attribute o "need_name" p1) [] [] pos) y.X.env = (do
      let ov ← eval o y.X.env
      standAt p1.atName
      let (f, first) ← holding [ov] (getMethod ov "need_name" pl)
      callWith pos f first (backTo pos (starEach [] y.X.env)) (backToKw pos (keywordEach [] y.X.env))) := by rfl) : EV y (.Call (.Attribute o "need_name" p1) [] [] pos) ρ η Q := by
  obtain ⟨f, fd, m, K, b⟩ := M.nn
  refine ev_mt0 M.cls.cl m K hr b (h.mono fun d η1 z => ?_) ht
  obtain ⟨s, ηr, x, r, at_, nm, rfl, pm, q⟩ := z
  exact ⟨.inr ⟨s.z, _, rfl, pm.mem_iff.mpr wob_mem, rfl⟩, ⟨(s, x), at_.ok, at_.cur, nm⟩, ηr, rfl, pm, fun d η' ⟨e1, e2⟩ => by rw [e1, e2]; exact q, fun _ _ _ _ z => z.elim⟩
theorem ev_nwordS (M : WM2 y.X.prog y.X.w y.X.K y.X.mg y.X.base y.MC y.T W) (hr : Room 2 y.X.A)
    (h : EV y o ρ η fun d η1 => ∃ (s : Wst) (ηr : Sto) (x : Str) (r zs : List Str), s.At (x :: r) ∧ x ∈ zs ∧ zs.length ≤ 1000 ∧ PureV y e ρ η1 (.tup (zs.map D.str)) ∧ d = .ref s.z ∧ η1.Perm (s.st W ++ ηr) ∧ Q (.str x) (s.nxt.st W ++ ηr))
    (hbase : attributeBase o "need_word" y.X.env (eval o y.X.env) = eval o y.X.env := by rfl) : EV y (.Call (.Attribute o "need_word" p1) [.Starred e p2] [] pos) ρ η Q := by
  obtain ⟨f, m, bm, K⟩ := M.nw
  refine ev_mtS M.cls.cl bm K hr (fun _ => pas0) (h.mono fun d η1 z => ?_) hbase
  obtain ⟨s, ηr, x, r, zs, at_, mem, hl, pv, rfl, pm, q⟩ := z
  exact ⟨.inr ⟨s.z, _, rfl, pm.mem_iff.mpr wob_mem, rfl⟩, _, ⟨((s, zs), x), at_.ok, at_.cur, mem⟩, ηr, pv, by rw [sizeLine_eq, List.length_map]; omega, rfl, pm, fun d η' ⟨e1, e2⟩ => by rw [e1, e2]; exact q, fun _ _ _ _ z => z.elim⟩
/-- w.need_word(e), e being the present word itself -/
theorem ev_nword1 {pl : Sem Bool} (M : WM2 y.X.prog y.X.w y.X.K y.X.mg y.X.base y.MC y.T W) (hr : Room 2 y.X.A)
    (h : EV y o ρ η fun d η1 => (∃ (p : Addr) (fs : List (Str × D)), d = .ref p ∧ (p, .obj W fs) ∈ η1 ∧ fs.lookup ("need_word" : Str) = none) ∧ EV y e ρ η1 fun v η2 => ∃ (s : Wst) (ηr : Sto) (x : Str) (r : List Str), s.At (x :: r) ∧ v = .str x ∧ d = .ref s.z ∧ η2.Perm (s.st W ++ ηr) ∧ Q (.str x) (s.nxt.st W ++ ηr))
    (hn : noStar e = true := by rfl)
    (ht : eval (.Call (.Attribute o "need_word" p1) [e] [] pos) y.X.env = (do
      let ov ← eval o y.X.env
      standAt p1.atName
      let (f, first) ← holding [ov] (getMethod ov "need_word" pl)
      callWith pos f first (backTo pos (starEach [e] y.X.env)) (backToKw pos (keywordEach [] y.X.env))) := by rfl) : EV y (.Call (.Attribute o "need_word" p1) [e] [] pos) ρ η Q := by
  obtain ⟨f, m, bm, K⟩ := M.nw
  refine ev_mtV M.cls.cl m K hr (h.mono fun d η1 z => ⟨.inr z.1, av_cons (z.2.mono fun v η2 q => av_nil ?_) (star_cons hn)⟩) (star_cons hn) rfl ht
  obtain ⟨s, ηr, x, r, at_, rfl, rfl, pm, q⟩ := q
  exact ⟨by rw [sizeLine_eq]; show 1 ≤ 16777216; decide, ⟨((s, [x]), x), at_.ok, at_.cur, List.mem_singleton.mpr rfl⟩, ηr, rfl, pm, fun d η' ⟨e1, e2⟩ => by rw [e1, e2]; exact q, fun _ _ _ _ z => z.elim⟩
end
/-! reading a condition -/
def condT : List Str := ["always", "never", "in", "missing"]
structure CondA where
  s : Wst
  t : Tr
  r : List Str
def F_cond (W C : Addr) : FS {a : CondA // a.t.isLeaf = true ∧ a.t.good ∧ a.s.At (a.t.ws ++ a.r)} := { args := fun a => [.ref a.1.s.z], st := fun a => a.1.s.st W, ret := fun a d η => d = filD C a.1.t ∧ η = (a.1.s.adv a.1.t.ws.length).st W }
/-- the makers of filters -/
structure Makers (P : Program) (w : World) (K : PySem.W.Frag) (mg : Str → Option Value) (base : Heap) (MC : Addr → Prop) (T : List (Addr × Str)) (C CR : Addr) : Prop where
  glob : mg "Filter" = some (.ref C)
  rd : ∃ mc, ClX.CRead K C mc ∧ (∃ p g, ClX.CMet K C mc "always" p g ∧ FnR P w K mg base CX0 105 g (spOf ⟨K, MC, T⟩ (F_falways C))) ∧ (∃ p g, ClX.CMet K C mc "never" p g ∧ FnR P w K mg base CX0 105 g (spOf ⟨K, MC, T⟩ (F_fnever C))) ∧ (∃ p g, ClX.CMet K C mc "missing" p g ∧ FnR P w K mg base CX0 105 g (spOf ⟨K, MC, T⟩ (F_fmiss C))) ∧ (∃ p g, ClX.CMet K C mc "within" p g ∧ FnR P w K mg base CX0 105 g (spOf ⟨K, MC, T⟩ (F_fwithin 101 C CR)))
theorem k_cond (F : Fun K "condition_from" "condition_from" s_condition_from f fd) (M : WM2 P w K mg base MC T W) (GC : GTup K mg "CONDITIONS" condT) (KF : Makers P w K mg base MC T C CR) (GR : Cal P w K mg base 8 "ranges_in" ["word"] (spOf ⟨K, MC, T⟩ (F_rangesin CR))) : FnOk P w K mg base CX0 106 f fd ["words"] (spOf ⟨K, MC, T⟩ (F_cond W C)) :=
  ok_of _ F c_condition_from (fun _ => rfl) fun a cdv A outer s H E hr => by
    obtain ⟨⟨s0, t, r⟩, lf, gd, at0⟩ := a
    have lf : t.isLeaf = true := lf
    have gd : t.good := gd
    have at0 : s0.At (t.ws ++ r) := at0
    have h2 : Room 2 (A.deeper (envOfC "condition_from" (defScope s_condition_from) s.heap.objs.size f cdv)) := hr.mono (by decide)
    obtain ⟨mc, rd, ⟨pa, ga, ca, Ka⟩, ⟨pn, gn, cn, Kn⟩, ⟨pm, gm, cm, Km⟩, ⟨pw, gw, cw, Kw⟩⟩ := KF.rd
    show SVs _ _ [some (.ref s0.z), none, none] (s0.st W) _
    cases t with
    | nt t => cases lf
    | bin a t u => cases lf
    | always =>
      refine svs_cons (sv_as 1 (ev_nwordS M h2 (ev_var (d := .ref s0.z) 0 rfl ⟨s0, [], "always", r, condT, at0, by simp [condT], by decide, pure_gtup GC, rfl, by rw [List.append_nil], ?_⟩)) c_condition_from.nd)
      refine svs_cons (sv_matchC (ev_var (d := .str "always") 1 rfl ⟨"always", rfl, mc_here ?_⟩))
      refine svs_cons (sv_ret (ev_cm0 rd ca Ka hr (ev_glob (v := .ref C) (d := .ref C) KF.glob rfl (fun _ => at_ref.mpr rfl) ⟨rfl, (), s0.nxt.st W ++ [], rfl, List.Perm.refl _, ?_, fun _ _ _ _ z => z.elim⟩)))
      rintro d η' ⟨rfl, rfl⟩
      exact lose_id ⟨rfl, List.append_nil _⟩
    | never =>
      refine svs_cons (sv_as 1 (ev_nwordS M h2 (ev_var (d := .ref s0.z) 0 rfl ⟨s0, [], "never", r, condT, at0, by simp [condT], by decide, pure_gtup GC, rfl, by rw [List.append_nil], ?_⟩)) c_condition_from.nd)
      refine svs_cons (sv_matchC (ev_var (d := .str "never") 1 rfl ⟨"never", rfl, mc_skip (mc_here ?_)⟩))
      refine svs_cons (sv_ret (ev_cm0 rd cn Kn hr (ev_glob (v := .ref C) (d := .ref C) KF.glob rfl (fun _ => at_ref.mpr rfl) ⟨rfl, (), s0.nxt.st W ++ [], rfl, List.Perm.refl _, ?_, fun _ _ _ _ z => z.elim⟩)))
      rintro d η' ⟨rfl, rfl⟩
      exact lose_id ⟨rfl, List.append_nil _⟩
    | miss c =>
      refine svs_cons (sv_as 1 (ev_nwordS M h2 (ev_var (d := .ref s0.z) 0 rfl ⟨s0, [], "missing", c :: r, condT, at0, by simp [condT], by decide, pure_gtup GC, rfl, by rw [List.append_nil], ?_⟩)) c_condition_from.nd)
      refine svs_cons (sv_matchC (ev_var (d := .str "missing") 1 rfl ⟨"missing", rfl, mc_skip (mc_skip (mc_here ?_))⟩))
      refine svs_cons (sv_ret (ev_cm rd cm Km hr (ev_glob (v := .ref C) (d := .ref C) KF.glob rfl (fun _ => at_ref.mpr rfl) ⟨rfl, av_cons (ev_nname M h2 (ev_var (d := .ref s0.z) 0 rfl ⟨s0.nxt, [], c, r, at0.nxt, gd, rfl, List.Perm.refl _, av_nil ⟨c, s0.nxt.nxt.st W ++ [], rfl, List.Perm.refl _, ?_, fun _ _ _ _ z => z.elim⟩⟩))⟩)))
      rintro d η' ⟨rfl, rfl⟩
      exact lose_id ⟨rfl, List.append_nil _⟩
    | wi c ps =>
      refine svs_cons (sv_as 1 (ev_nwordS M h2 (ev_var (d := .ref s0.z) 0 rfl ⟨s0, [], "in", c :: partsT ps :: r, condT, at0, by simp [condT], by decide, pure_gtup GC, rfl, by rw [List.append_nil], ?_⟩)) c_condition_from.nd)
      refine svs_cons (sv_matchC (ev_var (d := .str "in") 1 rfl ⟨"in", rfl, mc_skip (mc_skip (mc_skip (mc_here ?_)))⟩))
      refine svs_cons (sv_as 2 (ev_nname M h2 (ev_var (d := .ref s0.z) 0 rfl ⟨s0.nxt, [], c, partsT ps :: r, at0.nxt, gd.1, rfl, List.Perm.refl _, ?_⟩)) c_condition_from.nd)
      show SVs _ _ [some (.ref s0.z), some (.str "in"), some (.str c)] (s0.nxt.nxt.st W ++ []) _
      have at2 : s0.nxt.nxt.At (partsT ps :: r) := at0.nxt.nxt
      refine svs_cons (sv_ret (ev_cm rd cw Kw hr (ev_glob (v := .ref C) (d := .ref C) KF.glob rfl (fun _ => at_ref.mpr rfl) ⟨rfl, av_cons (ev_var (d := .str c) 2 rfl (av_cons (ev_need M.toWMeths (hr.mono (by decide)) (ev_var (d := .ref s0.z) 0 rfl ⟨⟨s0.z, _, rfl, List.mem_cons_self, rfl⟩, ?_⟩))))⟩)))
      refine ev_cal GR (hr.mono (by decide)) (av_cons (ev_present M.toWMeths (hr.mono (by decide)) (ev_var (d := .ref s0.z) 0 rfl ⟨s0.nxt.nxt, [], some (partsT ps), at2.ok, rfl, at2.cur, List.Perm.refl _, av_nil ⟨⟨ps, gd.2⟩, s0.nxt.nxt.st W ++ [], rfl, List.Perm.refl _, ?_, fun _ _ _ _ z => z.elim⟩⟩)))
      rintro d η' ⟨rfl, rfl⟩
      refine ⟨s0.nxt.nxt, [], rfl, rfl, List.Perm.refl _, av_nil ⟨⟨(c, ps), by have := gd.2.len; show ps.length ≤ 1000; omega⟩, s0.nxt.nxt.nxt.st W ++ [], rfl, List.Perm.refl _, ?_, fun _ _ _ _ z => z.elim⟩⟩
      rintro d η' ⟨rfl, rfl⟩
      exact lose_id ⟨rfl, List.append_nil _⟩
end
end K85
end Sx

namespace Sx
namespace K85
open PySem PySem.Spec PyProof.Rows L2 TL
open LamX (Tabs TabS TabB ExtN)
def Tk.d (C : Addr) : Tk → D
  | .neg => .str "~"
  | .two a => .str (sgn a)
  | .leaf t => filD C t
def signsT : List Str := ["&", "|", "~"]
/-- the counts of what is missing, the innermost last -/
def cntD (fs : List Fr') : List D := (fs.reverse.map fun f => (f.cnt : Int)).map D.int
theorem cntD_cons (f : Fr') (fs : List Fr') : cntD (f :: fs) = cntD fs ++ [.int (f.cnt : Int)] := by simp [cntD]
theorem cntD_len (fs : List Fr') : (cntD fs).length = fs.length := by simp [cntD]
theorem cnt_pd {η : Sto} (fs : List Fr') : PdAll η (cntD fs) ((fs.reverse.map fun f => (f.cnt : Int)).map PyData.int) := pd_map PdAt.int _
theorem cnt_lay (fs : List Fr') : PyData.canLayAll0 ((fs.reverse.map fun f => (f.cnt : Int)).map PyData.int) = true := canLay_map (fun a => by simp [PyData.canLay0]) _
theorem sign_step {t : Tr} (h : t.isLeaf = false) (g : t.good) : ∃ (x : Str) (fr : Fr') (tk : Tk) (u : Tr), t.ws = x :: (u.ws ++ fr.ws) ∧ t.tks = tk :: (u.tks ++ fr.tks) ∧ (∀ C, tk.d C = .str x) ∧ inS? (some x) signsT = true ∧
    (1 + (if (!decide (x = ("~" : Str))) = true then (1 : Int) else 0)) = (fr.cnt : Int) ∧ u.dep + 1 ≤ t.dep ∧ u.good ∧ ∀ r : List Fr', okFs r → r.length + t.dep ≤ 100 → okFs (fr :: r) := by
  cases t with
  | nt u => exact ⟨"~", .one, .neg, u, by simp [Tr.ws, Fr'.ws], by simp [Tr.tks, Fr'.tks], fun C => rfl, by decide +kernel, by decide +kernel, Nat.le_refl _, g, fun r h1 _ => h1⟩
  | bin a u v =>
    refine ⟨sgn a, .left v, .two a, u, rfl, rfl, fun C => rfl, by cases a <;> decide +kernel, ?_, ?_, g.1, fun r h1 h2 => ⟨?_, g.2, h1⟩⟩
    · show (1 + (if (!decide (sgn a = ("~" : Str))) = true then (1 : Int) else 0)) = 2
      cases a <;> decide +kernel
    · simp only [Tr.dep]; omega
    · simp only [Tr.dep] at h2; omega
  | _ => cases h
theorem leaf_step {t : Tr} (h : t.isLeaf = true) : ∃ (x : Str) (r : List Str), t.ws = x :: r ∧ inS? (some x) signsT = false := by
  cases t with
  | always => exact ⟨"always", [], rfl, by decide +kernel⟩
  | never => exact ⟨"never", [], rfl, by decide +kernel⟩
  | miss c => exact ⟨"missing", _, rfl, by decide +kernel⟩
  | wi c ps => exact ⟨"in", _, rfl, by decide +kernel⟩
  | _ => cases h
theorem tks_len (t : Tr) : t.tks.length ≤ t.ws.length := by
  induction t with
  | nt t ih => simp only [Tr.tks, Tr.ws, List.length_cons]; omega
  | bin a t u ih1 ih2 => simp only [Tr.tks, Tr.ws, List.length_cons, List.length_append]; omega
  | _ => simp [Tr.tks, Tr.ws]
theorem adv_adv (s : Wst) (i k : Nat) : (s.adv i).adv k = s.adv (i + k) := by
  unfold Wst.adv
  rw [Nat.add_assoc]
section
variable {P : Program} {w : World} {K : PySem.W.Frag} {mg : Str → Option Value} {base : Heap} {MC : Addr → Prop} {T : List (Addr × Str)} {f fI C CR W g : Addr} {fd fdI : FuncData}
structure TokA where
  s : Wst
  t : Tr
abbrev okA : Type := {a : TokA // a.t.good ∧ a.t.dep ≤ 100 ∧ a.s.At a.t.ws}
def F_tokens (W C : Addr) : FS okA := { args := fun a => [.ref a.1.s.z], st := fun a => a.1.s.st W, ret := fun a d η => ∃ p, d = .ref p ∧ η = (a.1.s.adv a.1.t.ws.length).st W ++ [(p, .lst (a.1.t.tks.map (Tk.d C)))] }
def tkI (W C : Addr) (s0 : Wst) (t0 : Tr) (m : Nat) (ρ : Rho) (η : Sto) : Prop :=
  (∃ (acc : List Tk) (t : Tr) (fs : List Fr') (i : Nat) (p q : Addr) (v : Option D), ρ = [some (.ref s0.z), some (.ref p), some (.ref q), some (.bl false), v] ∧ η = (s0.adv i).st W ++ [(q, .lst (cntD fs)), (p, .lst (acc.map (Tk.d C)))] ∧
    acc ++ t.tks ++ pendT fs = t0.tks ∧ (s0.adv i).At (t.ws ++ pendW fs) ∧ fs.length + t.dep ≤ 100 ∧ okFs fs ∧ t.good ∧ m = (t.ws ++ pendW fs).length) ∨
  (∃ (p q : Addr) (v : Option D), ρ = [some (.ref s0.z), some (.ref p), some (.ref q), some (.bl true), v] ∧ η = (s0.adv t0.ws.length).st W ++ [(q, .lst (cntD [])), (p, .lst (t0.tks.map (Tk.d C)))] ∧ m = 0)
theorem k_tokens (F : Fun K "tokens_from" "tokens_from" s_tokens_from f fd) (M : WM2 P w K mg base MC T W) (GS : GTup K mg "SIGNS_reader" signsT) (hM : ∃ t, mg "MOST_WITHIN" = some (.int 100 t)) (h1 : mg "len" = none) (hi : mg "int" = none)
    (GC : Cal P w K mg base 106 "condition_from" ["words"] (spOf ⟨K, MC, T⟩ (F_cond W C))) : FnOk P w K mg base CX0 107 f fd ["words"] (spOf ⟨K, MC, T⟩ (F_tokens W C)) :=
  ok_of _ F c_tokens_from (fun _ => rfl) fun a cdv A outer s H E hr => by
    obtain ⟨⟨s0, t0⟩, gd0, dp0, at0⟩ := a
    have gd0 : t0.good := gd0
    have dp0 : t0.dep ≤ 100 := dp0
    have at0 : s0.At t0.ws := at0
    have hu := un200 hr
    have h2 : Room 2 (A.deeper (envOfC "tokens_from" (defScope s_tokens_from) s.heap.objs.size f cdv)) := hr.mono (by decide)
    have big : t0.ws.length ≤ 100000 := by have := at0.len; have := at0.ok.sz; omega
    have tkl := tks_len t0
    show SVs _ _ [some (.ref s0.z), none, none, none, none] (s0.st W) _
    refine svs_cons (sv_as 1 (ev_lst (av_nil ⟨Nat.zero_le _, fun p => ?_⟩)) c_tokens_from.nd)
    refine svs_cons (sv_as 2 (ev_lst (av_nil ⟨Nat.zero_le _, fun q => ?_⟩)) c_tokens_from.nd)
    refine svs_cons (sv_as 3 (ev_bl ?_) c_tokens_from.nd)
    show SVs _ _ [some (.ref s0.z), some (.ref p), some (.ref q), some (.bl false), none] ([(q, .lst []), (p, .lst [])] ++ s0.st W) _
    refine SVs.perm List.perm_append_comm ?_
    refine svs_cons (sv_while PassesOwn.never (tkI W C s0 t0) t0.ws.length (.inl ⟨[], t0, [], 0, p, q, none, rfl, rfl, by simp [pendT], by show s0.At (t0.ws ++ pendW []); simpa [pendW] using at0, by simpa using dp0, trivial, gd0, by simp [pendW]⟩) ?_)
    rintro m ρ' η' (⟨acc, t, fs, i, p, q, v, rfl, rfl, ea, at1, dp, ok, gd, rfl⟩ | ⟨p, q, v, rfl, rfl, rfl⟩)
    · refine tv_not (tv_val (ev_var (d := .bl false) 3 rfl ⟨false, rfl, fun _ => ?_, fun z => nomatch z⟩))
      have la : acc.length + t.tks.length + (pendT fs).length ≤ 100000 := by
        have := congrArg List.length ea
        simp only [List.length_append] at this
        omega
      cases lf : t.isLeaf with
      | false =>
        obtain ⟨x, fr, tk, u, e1, e2, e3, e4, e5, e6, e7, e8⟩ := sign_step lf gd
        have at2 : (s0.adv i).At (x :: (u.ws ++ fr.ws ++ pendW fs)) := by rw [e1] at at1; exact at1
        refine svs_cons (sv_as 4 (ev_present M.toWMeths (hr.mono (by decide)) (ev_var (d := .ref s0.z) 0 rfl ⟨s0.adv i, [(q, .lst (cntD fs)), (p, .lst (acc.map (Tk.d C)))], some x, at1.ok, rfl, at2.cur, List.Perm.refl _, ?_⟩)) c_tokens_from.nd)
        show SVs _ _ [some (.ref s0.z), some (.ref p), some (.ref q), some (.bl false), some (.str x)] _ _
        refine svs_cons (sv_ifC (tv_cmp rfl (ev_var (d := .str x) 4 rfl (ev_gtup GS (opw_inTS (o := some x) ⟨_, rfl, fun _ => ?_, fun z => absurd (e4.symm.trans z) Bool.noConfusion⟩)))))
        refine svs_cons (sv_ifC (tv_cmp (nomark _) (ev_callB h1 boot_len (av_cons (ev_var (d := .ref q) 2 rfl (av_nil (cw_lenL (List.mem_append_right _ List.mem_cons_self) (ev_gint hM (opw_eqI ⟨_, rfl, fun z => ?_, fun _ => svs_nil ?_⟩)))))))))
        · have := of_decide_eq_true z
          rw [cntD_len] at this
          omega
        refine svs_cons (sv_ex (ev_append (ev_var (d := .ref p) 1 rfl ⟨.inl ⟨rfl, _, List.mem_append_right _ (List.mem_cons_of_mem _ List.mem_cons_self)⟩, av_cons (ev_nword1 M h2 (ev_var (d := .ref s0.z) 0 rfl ⟨⟨s0.z, _, rfl, List.mem_cons_self, rfl⟩, ev_var (d := .str x) 4 rfl ⟨s0.adv i, [(q, .lst (cntD fs)), (p, .lst (acc.map (Tk.d C)))], x, _, at2, rfl, rfl, List.Perm.refl _, av_nil (MtW.nd fun nd => mw_append (List.mem_append_right _ (List.mem_cons_of_mem _ List.mem_cons_self)) ?_ ?_)⟩⟩))⟩)))
        · rw [sizeLine_eq, List.length_map]
          omega
        have pp : putM p (.lst (acc.map (Tk.d C) ++ [.str x])) ((s0.adv (i + 1)).st W ++ [(q, .lst (cntD fs)), (p, .lst (acc.map (Tk.d C)))]) = (s0.adv (i + 1)).st W ++ [(q, .lst (cntD fs)), (p, .lst ((acc ++ [tk]).map (Tk.d C)))] := by
          rw [List.map_append, List.map_cons, List.map_nil, e3 C]
          exact putM_in (l := (s0.adv (i + 1)).st W ++ [(q, .lst (cntD fs))]) (r := []) nd
        show SVs _ _ _ (putM p (.lst (acc.map (Tk.d C) ++ [.str x])) ((s0.adv (i + 1)).st W ++ [(q, .lst (cntD fs)), (p, .lst (acc.map (Tk.d C)))])) _
        rw [pp]
        refine svs_cons (sv_ex (ev_append (ev_var (d := .ref q) 2 rfl ⟨.inl ⟨rfl, _, List.mem_append_right _ List.mem_cons_self⟩, av_cons (ev_bin (ev_int (ev_callT hi PySem.Pv.boot_int (av_cons (ev_cmp (nomark _) (ev_var (d := .str x) 4 rfl (ev_str (opw_neS (av_nil (cw_intB (opw_add (av_nil (MtW.nd fun nd => mw_append (List.mem_append_right _ List.mem_cons_self) ?_ ?_)))))))))))))⟩)))
        · rw [sizeLine_eq, cntD_len]
          omega
        rw [e5, putM_in nd, ← cntD_cons]
        refine svs_nil (svs_nil ⟨(u.ws ++ pendW (fr :: fs)).length, ?_, .inl ⟨acc ++ [tk], u, fr :: fs, i + 1, p, q, _, rfl, rfl, ?_, ?_, ?_, e8 fs ok dp, e7, rfl⟩⟩)
        · rw [e1]
          simp only [pendW, List.flatMap_cons, List.length_append, List.length_cons]
          omega
        · rw [← ea, e2]
          simp [pendT]
        · have : (s0.adv (i + 1)).At (u.ws ++ fr.ws ++ pendW fs) := at2.nxt
          simpa [pendW] using this
        · rw [List.length_cons]
          omega
      | true =>
        obtain ⟨x, r, e1, e2⟩ := leaf_step lf
        have at2 : (s0.adv i).At (x :: (r ++ pendW fs)) := by rw [e1] at at1; exact at1
        refine svs_cons (sv_as 4 (ev_present M.toWMeths (hr.mono (by decide)) (ev_var (d := .ref s0.z) 0 rfl ⟨s0.adv i, [(q, .lst (cntD fs)), (p, .lst (acc.map (Tk.d C)))], some x, at1.ok, rfl, at2.cur, List.Perm.refl _, ?_⟩)) c_tokens_from.nd)
        show SVs _ _ [some (.ref s0.z), some (.ref p), some (.ref q), some (.bl false), some (.str x)] _ _
        refine svs_cons (sv_ifC (tv_cmp rfl (ev_var (d := .str x) 4 rfl (ev_gtup GS (opw_inTS (o := some x) ⟨_, rfl, fun z => absurd (e2.symm.trans z) Bool.noConfusion, fun _ => ?_⟩)))))
        refine svs_cons (sv_ex (ev_append (ev_var (d := .ref p) 1 rfl ⟨.inl ⟨rfl, _, List.mem_append_right _ (List.mem_cons_of_mem _ List.mem_cons_self)⟩, av_cons (ev_cal GC hr (av_cons (ev_var (d := .ref s0.z) 0 rfl (av_nil ⟨⟨⟨s0.adv i, t, pendW fs⟩, lf, gd, at1⟩, [(q, .lst (cntD fs)), (p, .lst (acc.map (Tk.d C)))], rfl, List.Perm.refl _, ?_, fun _ _ _ _ z => z.elim⟩))))⟩)))
        rintro d η' ⟨rfl, rfl⟩
        show AV _ _ _ (((s0.adv i).adv t.ws.length).st W ++ [(q, .lst (cntD fs)), (p, .lst (acc.map (Tk.d C)))]) _
        have at3 : (s0.adv (i + t.ws.length)).At (pendW fs) := by
          rw [← adv_adv]
          exact at1.adv
        have ok2 := ok.pop
        have tl1 : t.tks = [Tk.leaf t] := tks_leaf lf
        rw [adv_adv]
        refine av_nil (MtW.nd fun nd => mw_append (List.mem_append_right _ (List.mem_cons_of_mem _ List.mem_cons_self)) (by rw [sizeLine_eq, List.length_map]; omega) ?_)
        have pp : putM p (.lst (acc.map (Tk.d C) ++ [filD C t])) ((s0.adv (i + t.ws.length)).st W ++ [(q, .lst (cntD fs)), (p, .lst (acc.map (Tk.d C)))]) = (s0.adv (i + t.ws.length)).st W ++ [(q, .lst (cntD fs)), (p, .lst ((acc ++ [Tk.leaf t]).map (Tk.d C)))] := by
          rw [List.map_append, List.map_cons, List.map_nil]
          exact putM_in (l := (s0.adv (i + t.ws.length)).st W ++ [(q, .lst (cntD fs))]) (r := []) nd
        show SVs _ _ _ (putM p (.lst (acc.map (Tk.d C) ++ [filD C t])) ((s0.adv (i + t.ws.length)).st W ++ [(q, .lst (cntD fs)), (p, .lst (acc.map (Tk.d C)))])) _
        rw [pp]
        generalize hi' : i + t.ws.length = i' at at3 ⊢
        refine svs_cut (fun ρ η => ρ = [some (.ref s0.z), some (.ref p), some (.ref q), some (.bl false), some (.str x)] ∧ ∃ η0 : Sto, η = η0 ++ ((s0.adv i').st W ++ [(q, .lst (cntD (popF fs))), (p, .lst ((acc ++ [Tk.leaf t]).map (Tk.d C)))])) ?_ ?_
        · refine sv_while PassesOwn.never (fun m ρ η => ∃ fs', popF fs' = popF fs ∧ ρ = [some (.ref s0.z), some (.ref p), some (.ref q), some (.bl false), some (.str x)] ∧ η = (s0.adv i').st W ++ [(q, .lst (cntD fs')), (p, .lst ((acc ++ [Tk.leaf t]).map (Tk.d C)))] ∧ m = fs'.length) fs.length ⟨fs, rfl, rfl, rfl, rfl⟩ ?_
          rintro m ρ' η' ⟨fs', ep, rfl, rfl, rfl⟩
          refine tv_w (tv_andC (tv_cmp (nomark _) (ev_var (d := .ref q) 2 rfl (ev_lst (av_nil ⟨Nat.zero_le _, fun r2 => opw_neNil hu (List.mem_cons_of_mem _ (List.mem_append_right _ List.mem_cons_self)) List.mem_cons_self (cnt_pd fs') (cnt_lay fs') ⟨_, rfl, fun e => ?_, fun e => ⟨(fun z => nomatch z), fun _ => ?_⟩⟩⟩)))))
          · refine WV.drop (List.sublist_cons_self _ _) ?_
            cases fs' with
            | nil => cases e
            | cons f1 fs' =>
              refine wv_and1 (tv_cmp (nomark _) (ev_ix (fun _ _ => rfl) (ev_var (d := .ref q) 2 rfl (ev_un (ev_int (unw_neg (xw_list (List.mem_append_right _ List.mem_cons_self) (by rw [cntD_cons]; exact atI_last _ _) (ev_int (opw_eqI ⟨_, rfl, fun e1 => ?_, fun e1 => ?_⟩)))))))))
              · have : f1 = .one := by
                  cases f1 with
                  | one => rfl
                  | left u => exact absurd (of_decide_eq_true e1) (by show ¬ ((2 : Int) = 1); decide)
                subst this
                refine SVs.nd fun nd => svs_cons (sv_ex (ev_pop (ev_var (d := .ref q) 2 rfl ⟨.inl ⟨rfl, _, List.mem_append_right _ List.mem_cons_self⟩, mw_pop (by rw [cntD_cons]; exact List.mem_append_right _ List.mem_cons_self) ?_⟩)))
                rw [putM_in nd]
                exact svs_nil ⟨fs'.length, Nat.lt_succ_self _, fs', ep, rfl, rfl, rfl⟩
              · have : popF (f1 :: fs') = f1 :: fs' := by
                  cases f1 with
                  | one => exact absurd (by decide) (of_decide_eq_false e1)
                  | left u => rfl
                rw [this] at ep
                rw [ep]
                exact ⟨rfl, [], rfl⟩
          · have : fs' = [] := by
              cases fs' with
              | nil => rfl
              | cons f1 fs' => rw [cntD_cons] at e; simp at e
            subst this
            exact ⟨rfl, [(r2, .lst [])], by rw [show popF fs = [] from ep.symm]; rfl⟩
        · rintro ρ' η' ⟨rfl, η0, rfl⟩
          refine SVs.drop (List.sublist_append_right η0 _) ?_
          have pw : pendW (popF fs) = pendW fs := popF_w fs
          have pt : pendT (popF fs) = pendT fs := popF_t fs
          have pl := popF_len fs
          refine svs_cons (sv_as 3 (ev_cmp (nomark _) (ev_var (d := .ref q) 2 rfl (ev_lst (av_nil ⟨Nat.zero_le _, fun r2 => opw_eqNil hu (List.mem_cons_of_mem _ (List.mem_append_right _ List.mem_cons_self)) List.mem_cons_self (cnt_pd (popF fs)) (cnt_lay (popF fs)) ?_⟩)))) c_tokens_from.nd)
          refine SVs.drop (List.sublist_cons_self _ _) ?_
          rcases popF_case fs with e | ⟨u, r', e⟩
          · rw [e] at pw pt ⊢
            refine svs_cons (sv_ifC (tv_not (tv_val (ev_var (d := .bl true) 3 rfl ⟨true, rfl, (fun z => nomatch z), fun _ => svs_nil (svs_nil (svs_nil ⟨0, ?_, .inr ⟨p, q, _, rfl, ?_, rfl⟩⟩))⟩))))
            · rw [e1]
              exact Nat.succ_pos _
            · rw [← pw] at at3
              have l1 := at3.len
              have l2 := at0.len
              have : i' = t0.ws.length := by
                have h1 : s0.i + i' + 0 = s0.ws.length := l1
                omega
              rw [this, ← ea, tl1, ← pt]
              simp [pendT]
          · rw [e] at pw pt pl ok2 ⊢
            refine svs_cons (sv_ifC (tv_not (tv_val (ev_var (d := .bl false) 3 (by rw [cntD_cons]; simp) ⟨false, rfl, fun _ => ?_, fun z => nomatch z⟩))))
            have m1 : (q, Mo.lst (cntD (.left u :: r'))) ∈ (s0.adv i').st W ++ [(q, .lst (cntD (.left u :: r'))), (p, .lst ((acc ++ [Tk.leaf t]).map (Tk.d C)))] := List.mem_append_right _ List.mem_cons_self
            refine SVs.nd fun nd => svs_cons (sv_setItem (ev_bin (ev_ix (fun _ _ => rfl) (ev_var (d := .ref q) 2 rfl (ev_un (ev_int (unw_neg (xw_list m1 (by rw [cntD_cons]; exact atI_last _ _) (ev_int (opw_sub (ev_var (d := .ref q) 2 rfl (ev_un (ev_int (unw_neg (sw_list (k := r'.length) m1 (by rw [cntD_len]; exact ixN_last _) ?_)))))))))))))))
            rw [putM_in nd]
            have cd : (cntD (.left u :: r')).set r'.length (.int ((2 : Nat) - 1 : Int)) = cntD (.one :: r') := by
              rw [cntD_cons, cntD_cons, List.set_append_right _ _ (by rw [cntD_len]; exact Nat.le_refl _), cntD_len, Nat.sub_self]
              rfl
            rw [show ((Fr'.left u).cnt : Int) = ((2 : Nat) : Int) from rfl, cd]
            rw [← pw] at at3
            refine svs_nil (svs_nil (svs_nil ⟨(u.ws ++ pendW (.one :: r')).length, ?_, .inl ⟨acc ++ [Tk.leaf t], u, .one :: r', i', p, q, some (.str x), ?_, rfl, ?_, at3, ?_, ok2.2.2, ok2.2.1, rfl⟩⟩))
            · have : pendW (Fr'.one :: r') = pendW r' := rfl
              have h3 : pendW (Fr'.left u :: r') = u.ws ++ pendW r' := rfl
              rw [this, ← h3, pw, e1]
              simp only [List.length_append, List.length_cons]
              omega
            · rw [cntD_cons]; simp
            · rw [← ea, tl1, ← pt]
              simp [pendT, Fr'.tks]
            · exact ok2.1
    · refine tv_not (tv_val (ev_var (d := .bl true) 3 rfl ⟨true, rfl, (fun z => nomatch z), fun _ => ?_⟩))
      exact svs_cons (sv_ret (ev_var (d := .ref p) 1 rfl (lose_sub (List.Sublist.append (List.Sublist.refl _) (List.sublist_cons_self _ _)) ⟨p, rfl, rfl⟩)))
end
end K85
end Sx

namespace Sx
namespace K85
open PySem PySem.Spec PyProof.Rows L2 TL
open LamX (Tabs TabS TabB ExtN)
/-- the tokens from the last one on, each with enough before it, each tree within bounds -/
inductive Steps (B : Tr → Prop) : List Tr → List Tk → List Tr → Prop where
  | nil {st : List Tr} : Steps B st [] st
  | leaf {st st' : List Tr} {t : Tr} {ks : List Tk} : B t → Steps B (t :: st) ks st' → Steps B st (.leaf t :: ks) st'
  | neg {st st' : List Tr} {t : Tr} {ks : List Tk} : B (.nt t) → Steps B (.nt t :: st) ks st' → Steps B (t :: st) (.neg :: ks) st'
  | two {st st' : List Tr} {a : Bool} {t u : Tr} {ks : List Tk} : B (.bin a t u) → Steps B (.bin a t u :: st) ks st' → Steps B (t :: u :: st) (.two a :: ks) st'
theorem Steps.app {B : Tr → Prop} {st st1 st2 : List Tr} {xs ys : List Tk} (h : Steps B st xs st1) (k : Steps B st1 ys st2) : Steps B st (xs ++ ys) st2 := by
  induction h with
  | nil => exact k
  | leaf b _ ih => exact .leaf b (ih k)
  | neg b _ ih => exact .neg b (ih k)
  | two b _ ih => exact .two b (ih k)
theorem steps_tks (d n : Nat) : ∀ (t : Tr), t.dep ≤ d → t.size ≤ n → ∀ st : List Tr, Steps (fun u => u.dep ≤ d ∧ u.size ≤ n) st t.tks.reverse (t :: st)
  | .always, h1, h2, st => .leaf ⟨h1, h2⟩ .nil
  | .never, h1, h2, st => .leaf ⟨h1, h2⟩ .nil
  | .miss c, h1, h2, st => .leaf ⟨h1, h2⟩ .nil
  | .wi c ps, h1, h2, st => .leaf ⟨h1, h2⟩ .nil
  | .nt t, h1, h2, st => by
    simp only [Tr.dep, Tr.size] at h1 h2
    simp only [Tr.tks, List.reverse_cons]
    exact (steps_tks d n t (by omega) (by omega) st).app (.neg ⟨h1, h2⟩ .nil)
  | .bin a t u, h1, h2, st => by
    simp only [Tr.dep, Tr.size] at h1 h2
    simp only [Tr.tks, List.reverse_cons, List.reverse_append]
    exact ((steps_tks d n u (by omega) (by omega) st).app (steps_tks d n t (by omega) (by omega) (u :: st))).app (.two ⟨h1, h2⟩ .nil)
section
variable {P : Program} {w : World} {K : PySem.W.Frag} {mg : Str → Option Value} {base : Heap} {MC : Addr → Prop} {T : List (Addr × Str)} {f fI C CR W g : Addr} {fd fdI : FuncData}
/-- the operators of filters -/
structure Opers (P : Program) (w : World) (K : PySem.W.Frag) (mg : Str → Option Value) (base : Heap) (MC : Addr → Prop) (T : List (Addr × Str)) (C : Addr) : Prop where
  first : PySem.W.selfFirst K C = true
  and_ : ∃ g, PySem.W.findIn K (.ref C) (PySem.dunder Operator.BitAnd.info.2) = some (some (.ref g)) ∧ PySem.W.isFn K (.ref g) = true ∧ FnR P w K mg base CX0 105 g (spOf ⟨K, MC, T⟩ (F_fbin 101 C true))
  or_ : ∃ g, PySem.W.findIn K (.ref C) (PySem.dunder Operator.BitOr.info.2) = some (some (.ref g)) ∧ PySem.W.isFn K (.ref g) = true ∧ FnR P w K mg base CX0 105 g (spOf ⟨K, MC, T⟩ (F_fbin 101 C false))
  not_ : ∃ g, PySem.W.findIn K (.ref C) "__invert__" = some (some (.ref g)) ∧ PySem.W.isFn K (.ref g) = true ∧ FnR P w K mg base CX0 105 g (spOf ⟨K, MC, T⟩ (F_fnot 101 C))
section
variable {y : Sy} {ρ : Rho} {η : Sto} {Q : D → Sto → Prop}
theorem opw_fand (O : Opers y.X.prog y.X.w y.X.K y.X.mg y.X.base y.MC y.T C) (hr : Room 105 y.X.A) {t u : Tr} (hd : (Tr.bin true t u).dep ≤ 101) (hs : (Tr.bin true t u).size ≤ 1000) (h : Q (filD C (.bin true t u)) η) : OpW y (binaryOp .BitAnd) (filD C t) (filD C u) ρ η Q := by
  obtain ⟨g, h1, h2, h3⟩ := O.and_
  exact opw_own (op_ownB O.first h1 h2 h3 hr pas0) ⟨⟨(t, u), hd, hs⟩, η, rfl, List.Perm.refl _, fun d η' ⟨e1, e2⟩ => by rw [e1, e2]; exact h, fun _ _ _ _ z => z.elim⟩
theorem opw_for (O : Opers y.X.prog y.X.w y.X.K y.X.mg y.X.base y.MC y.T C) (hr : Room 105 y.X.A) {t u : Tr} (hd : (Tr.bin false t u).dep ≤ 101) (hs : (Tr.bin false t u).size ≤ 1000) (h : Q (filD C (.bin false t u)) η) : OpW y (binaryOp .BitOr) (filD C t) (filD C u) ρ η Q := by
  obtain ⟨g, h1, h2, h3⟩ := O.or_
  exact opw_own (op_ownB O.first h1 h2 h3 hr pas0) ⟨⟨(t, u), hd, hs⟩, η, rfl, List.Perm.refl _, fun d η' ⟨e1, e2⟩ => by rw [e1, e2]; exact h, fun _ _ _ _ z => z.elim⟩
theorem unw_fnot (O : Opers y.X.prog y.X.w y.X.K y.X.mg y.X.base y.MC y.T C) (hr : Room 105 y.X.A) {t : Tr} (hd : (Tr.nt t).dep ≤ 101) (hs : (Tr.nt t).size ≤ 1000) (h : Q (filD C (.nt t)) η) : UnW y (unaryOp .Invert) (filD C t) ρ η Q := by
  obtain ⟨g, h1, h2, h3⟩ := O.not_
  exact unw_own (un_own h1 h2 h3 hr pas0) ⟨⟨t, hd, hs⟩, η, rfl, List.Perm.refl _, fun d η' ⟨e1, e2⟩ => by rw [e1, e2]; exact h, fun _ _ _ _ z => z.elim⟩
end
structure JoinA where
  p : Addr
  t : Tr
def F_joinT (C : Addr) : FS {a : JoinA // a.t.dep ≤ 101 ∧ a.t.size ≤ 1000} := { args := fun a => [.ref a.1.p], st := fun a => [(a.1.p, .lst (a.1.t.tks.map (Tk.d C)))], ret := fun a d η => d = filD C a.1.t ∧ η = [] }
theorem k_joinT (F : Fun K "joined_tokens" "joined_tokens" s_joined_tokens f fd) (O : Opers P w K mg base MC T C) (oc : OfCls K C) (hk : PySem.W.kitOne K (.ref C) (.type "str") = some false) (hr1 : mg "reversed" = none) (hi : mg "isinstance" = none) (hs : mg "str" = none) :
    FnOk P w K mg base CX0 106 f fd ["tokens"] (spOf ⟨K, MC, T⟩ (F_joinT C)) :=
  ok_of _ F c_joined_tokens (fun _ => rfl) fun a cdv A outer s H E hr => by
    obtain ⟨⟨p, t⟩, hd, hz⟩ := a
    have hd : t.dep ≤ 101 := hd
    have hz : t.size ≤ 1000 := hz
    have tl1 := tks_len t
    have tl2 := ws_size t
    show SVs _ _ [some (.ref p), none, none, none, none] [(p, .lst (t.tks.map (Tk.d C)))] _
    refine svs_cons (sv_as 1 (ev_lst (av_nil ⟨Nat.zero_le _, fun q => ?_⟩)) c_joined_tokens.nd)
    refine svs_cons (sv_forI (.nm 2) PassesOwn.never rfl (pg_name c_joined_tokens.nd rfl (Or.inl rfl)) (iv_rev hr1 (av_cons (ev_var (d := .ref p) 0 rfl (av_nil ⟨p, _, rfl, List.mem_cons_of_mem _ List.mem_cons_self, ?_⟩)))))
    refine ⟨fun i ρ' η' => ∃ (st : List Tr) (v2 v3 v4 : Option D), Steps (fun u => u.dep ≤ 101 ∧ u.size ≤ 1000) st (t.tks.reverse.drop i) [t] ∧ st.length ≤ i ∧ η' = [(q, .lst (st.reverse.map (filD C))), (p, .lst (t.tks.map (Tk.d C)))] ∧ ρ' = [some (.ref p), some (.ref q), v2, v3, v4], ?_, ⟨[], none, none, none, steps_tks 101 1000 t hd hz [], Nat.zero_le _, rfl, rfl⟩, ?_, ?_⟩
    · rintro i ρ' η' ⟨st, v2, v3, v4, _, _, rfl, _⟩
      exact List.mem_cons_of_mem _ List.mem_cons_self
    · rintro i d ρ' η' ed ⟨st, v2, v3, v4, sp, sl, rfl, rfl⟩
      rw [← List.map_reverse, List.getElem?_map, Option.map_eq_some_iff] at ed
      obtain ⟨k, ek, rfl⟩ := ed
      refine ⟨trivial, SVs.nd fun nd => ?_⟩
      have li : i < t.tks.length := by
        have := (List.getElem?_eq_some_iff.mp ek).1
        rwa [List.length_reverse] at this
      have dr : t.tks.reverse.drop i = k :: t.tks.reverse.drop (i + 1) := by
        rw [List.drop_eq_getElem_cons (by rw [List.length_reverse]; exact li)]
        rw [List.getElem?_eq_getElem (by rw [List.length_reverse]; exact li)] at ek
        rw [Option.some.inj ek]
      rw [dr] at sp
      show SVs _ _ [some (.ref p), some (.ref q), some (k.d C), v3, v4] _ _
      cases sp with
      | leaf b sp =>
        rename_i t1
        refine svs_cons (sv_ifC (tv_not (tv_val (ev_callB hi boot_isinstance (av_cons (ev_var (d := filD C t1) 2 rfl (av_cons (ev_bltn hs PySem.Pv.boot_str (av_nil (cw_isi (.ins _ oc) (.ty _) (r := false) hk ⟨false, rfl, fun _ => ?_, fun z => nomatch z⟩))))))))))
        refine svs_cons (sv_ex (ev_append (ev_var (d := .ref q) 1 rfl ⟨.inl ⟨rfl, _, List.mem_cons_self⟩, av_cons (ev_var (d := filD C t1) 2 rfl (av_nil (mw_append List.mem_cons_self (by rw [sizeLine_eq, List.length_map, List.length_reverse]; omega) ?_)))⟩)))
        rw [putM_here]
        refine svs_nil (svs_nil ⟨t1 :: st, _, _, _, sp, Nat.succ_le_succ sl, ?_, rfl⟩)
        simp
      | @neg st st' t1 ks b sp =>
        refine svs_cons (sv_ifC (tv_not (tv_val (ev_callB hi boot_isinstance (av_cons (ev_var (d := .str "~") 2 rfl (av_cons (ev_bltn hs PySem.Pv.boot_str (av_nil (cw_isi (.str _) (.ty _) (r := true) rfl ⟨true, rfl, (fun z => nomatch z), fun _ => ?_⟩))))))))))
        refine svs_cons (sv_ifC (tv_cmp (nomark _) (ev_var (d := .str "~") 2 rfl (ev_str (opw_eqS ⟨_, rfl, fun _ => ?_, fun z => absurd z (by decide +kernel)⟩)))))
        have lst : (t1 :: st).reverse.map (filD C) = st.reverse.map (filD C) ++ [filD C t1] := by simp
        refine svs_cons (sv_ex (ev_append (ev_var (d := .ref q) 1 rfl ⟨.inl ⟨rfl, _, List.mem_cons_self⟩, av_cons (ev_un (ev_pop (ev_var (d := .ref q) 1 rfl ⟨.inl ⟨rfl, _, List.mem_cons_self⟩, mw_pop (by rw [lst]; exact List.mem_cons_self) (unw_fnot O hr b.1 b.2 (av_nil ?_))⟩)))⟩)))
        rw [putM_here]
        refine mw_append List.mem_cons_self (by rw [sizeLine_eq, List.length_map, List.length_reverse]; rw [List.length_cons] at sl; omega) ?_
        rw [putM_here]
        refine svs_nil (svs_nil (svs_nil ⟨.nt t1 :: st, _, _, _, sp, Nat.le_succ_of_le sl, ?_, rfl⟩))
        simp
      | @two st st' a t1 t2 ks b sp =>
        have sl : st.length + 2 ≤ i := sl
        refine svs_cons (sv_ifC (tv_not (tv_val (ev_callB hi boot_isinstance (av_cons (ev_var (d := .str (sgn a)) 2 rfl (av_cons (ev_bltn hs PySem.Pv.boot_str (av_nil (cw_isi (.str _) (.ty _) (r := true) rfl ⟨true, rfl, (fun z => nomatch z), fun _ => ?_⟩))))))))))
        refine svs_cons (sv_ifC (tv_cmp (nomark _) (ev_var (d := .str (sgn a)) 2 rfl (ev_str (opw_eqS ⟨_, rfl, fun z => absurd z (by cases a <;> decide +kernel), fun _ => ?_⟩)))))
        have lst : (t1 :: t2 :: st).reverse.map (filD C) = (st.reverse.map (filD C) ++ [filD C t2]) ++ [filD C t1] := by simp
        refine svs_cons (sv_par 3 4 rfl c_joined_tokens.nd (by decide) (av_cons (ev_pop (ev_var (d := .ref q) 1 rfl ⟨.inl ⟨rfl, _, List.mem_cons_self⟩, mw_pop (by rw [lst]; exact List.mem_cons_self) ?_⟩))))
        rw [putM_here]
        refine av_cons (ev_pop (ev_var (d := .ref q) 1 rfl ⟨.inl ⟨rfl, _, List.mem_cons_self⟩, mw_pop List.mem_cons_self ?_⟩))
        rw [putM_here]
        refine av_nil ⟨_, _, rfl, ?_⟩
        show SVs _ _ [some (.ref p), some (.ref q), some (.str (sgn a)), some (filD C t1), some (filD C t2)] [(q, .lst (st.reverse.map (filD C))), (p, .lst (t.tks.map (Tk.d C)))] _
        refine svs_cons (sv_ex (ev_append (ev_var (d := .ref q) 1 rfl ⟨.inl ⟨rfl, _, List.mem_cons_self⟩, av_cons (ev_ifC (tv_cmp (nomark _) (ev_var (d := .str (sgn a)) 2 rfl (ev_str (opw_eqS ⟨_, rfl, fun z => ?_, fun z => ?_⟩)))))⟩)))
        · have : a = true := by
            cases a with
            | true => rfl
            | false => exact absurd z (by decide +kernel)
          subst this
          refine ev_bin (ev_var (d := filD C t1) 3 rfl (ev_var (d := filD C t2) 4 rfl (opw_fand O hr b.1 b.2 (av_nil (mw_append List.mem_cons_self (by rw [sizeLine_eq, List.length_map, List.length_reverse]; omega) ?_)))))
          rw [putM_here]
          refine svs_nil (svs_nil (svs_nil ⟨.bin true t1 t2 :: st, _, _, _, sp, by rw [List.length_cons]; omega, ?_, rfl⟩))
          simp
        · have : a = false := by
            cases a with
            | false => rfl
            | true => exact absurd z (by decide +kernel)
          subst this
          refine ev_bin (ev_var (d := filD C t1) 3 rfl (ev_var (d := filD C t2) 4 rfl (opw_for O hr b.1 b.2 (av_nil (mw_append List.mem_cons_self (by rw [sizeLine_eq, List.length_map, List.length_reverse]; omega) ?_)))))
          rw [putM_here]
          refine svs_nil (svs_nil (svs_nil ⟨.bin false t1 t2 :: st, _, _, _, sp, by rw [List.length_cons]; omega, ?_, rfl⟩))
          simp
    · rintro ρ' η' ⟨st, v2, v3, v4, sp, sl, rfl, rfl⟩
      rw [List.length_reverse, List.length_map, List.drop_of_length_le (by rw [List.length_reverse]; exact Nat.le_refl _)] at sp
      cases sp
      show SVs _ _ _ [(q, .lst [filD C t]), (p, .lst (t.tks.map (Tk.d C)))] _
      exact svs_cons (sv_ret (ev_ix (fun _ _ => rfl) (ev_var (d := .ref q) 1 rfl (ev_int (xw_list List.mem_cons_self (atI0 (x := filD C t) (xs := [])) (lose_nil ⟨rfl, rfl⟩))))))
/-- filter_from, of the rest of a line -/
def F_filfrom (W C : Addr) : FS {a : TokA // a.t.good ∧ a.t.dep ≤ 100 ∧ a.t.size ≤ 1000 ∧ a.t.ws.length ≤ 400 ∧ a.s.At a.t.ws} := { args := fun a => [.ref a.1.s.z], st := fun a => a.1.s.st W, ret := fun a d η => d = filD C a.1.t ∧ η = (a.1.s.adv a.1.t.ws.length).st W }
theorem k_filfrom (F : Fun K "filter_from" "filter_from" s_filter_from f fd) (WC : WCls K W) (ne : ∃ g gd, Meth K W "need_end" g ∧ FnOk P w K mg base CX0 1 g gd ["self"] (spOf ⟨K, MC, T⟩ (F_needend W)) ∧ Binds K gd ["self"] []) (h1 : mg "len" = none) (h2 : mg "min" = none) (hM : ∃ t, mg "MOST_FILTER_WORDS" = some (.int 400 t))
    (GT : Cal P w K mg base 107 "tokens_from" ["words"] (spOf ⟨K, MC, T⟩ (F_tokens W C))) (GJ : Cal P w K mg base 106 "joined_tokens" ["tokens"] (spOf ⟨K, MC, T⟩ (F_joinT C))) : FnOk P w K mg base CX0 108 f fd ["words"] (spOf ⟨K, MC, T⟩ (F_filfrom W C)) :=
  ok_of _ F c_filter_from (fun _ => rfl) fun a cdv A outer s H E hr => by
    obtain ⟨⟨s0, t⟩, gd, dp, sz, wl, at0⟩ := a
    have gd : t.good := gd
    have dp : t.dep ≤ 100 := dp
    have sz : t.size ≤ 1000 := sz
    have wl : t.ws.length ≤ 400 := wl
    have at0 : s0.At t.ws := at0
    obtain ⟨z, l, ws, ln, i, n⟩ := s0
    have fl : n = ws.length := at0.full
    have ll : i + t.ws.length = ws.length := at0.len
    subst fl
    show SVs _ _ [some (.ref z), none] [(z, wob W l ln i ws.length), (l, .lst (ws.map D.str))] _
    refine svs_cons (sv_fld (ev_callB h2 (by decide +kernel) (av_cons (ev_callB h1 boot_len (av_cons (ev_fldO (ev_var (d := .ref z) 0 rfl ⟨z, W, _, .ref l, rfl, List.mem_cons_self, WC.cl, WC.n2, rfl, av_nil (cw_lenL (List.mem_cons_of_mem _ List.mem_cons_self) (av_cons (ev_bin (ev_fldO (ev_var (d := .ref z) 0 rfl ⟨z, W, _, .int (i : Nat), rfl, List.mem_cons_self, WC.cl, WC.n3, rfl, ev_gint hM (opw_add (av_nil (cw_minP rfl (ev_var (d := .ref z) 0 rfl ⟨z, W, _, rfl, List.mem_cons_self, WC.cl, WC.n4, by show 4 < 1000; decide, ?_⟩))))⟩)))))⟩)))))))
    rw [putM_here, List.length_map, if_neg (by omega)]
    refine svs_cons (sv_as 1 (ev_cal GT hr (av_cons (ev_var (d := .ref z) 0 rfl (av_nil ⟨⟨⟨⟨z, l, ws, ln, i, ws.length⟩, t⟩, gd, dp, at0⟩, [], rfl, List.Perm.refl _, ?_, fun _ _ _ _ z => z.elim⟩)))) c_filter_from.nd)
    rintro d η' ⟨p, rfl, rfl⟩
    show SVs _ _ [some (.ref z), some (.ref p)] (((⟨z, l, ws, ln, i + t.ws.length, ws.length⟩ : Wst).st W ++ [(p, .lst (t.tks.map (Tk.d C)))]) ++ []) _
    rw [List.append_nil]
    obtain ⟨g, gfd, gm, gk, gb⟩ := ne
    refine svs_cons (sv_ex (ev_mt0 WC.cl gm gk (hr.mono (by decide)) gb (ev_var (d := .ref z) 0 rfl ⟨.inr ⟨z, _, rfl, List.mem_cons_self, rfl⟩, ⟨⟨z, l, ws, ln, i + t.ws.length, ws.length⟩, ll⟩, [(p, .lst (t.tks.map (Tk.d C)))], rfl, List.Perm.refl _, ?_, fun _ _ _ _ z => z.elim⟩)))
    rintro d η' ⟨rfl, rfl⟩
    refine svs_cons (sv_ret (ev_cal GJ (hr.mono (by decide)) (av_cons (ev_var (d := .ref p) 1 rfl (av_nil ⟨⟨⟨p, t⟩, by show t.dep ≤ 101; omega, sz⟩, (⟨z, l, ws, ln, i + t.ws.length, ws.length⟩ : Wst).st W, rfl, List.perm_append_comm, ?_, fun _ _ _ _ z => z.elim⟩)))))
    rintro d η' ⟨rfl, rfl⟩
    exact lose_id ⟨rfl, rfl⟩
/-- a tree with its text -/
def okR (t : Tr) : Prop := t.good ∧ t.dep ≤ 100 ∧ t.size ≤ 1000 ∧ t.ws.length ≤ 400
theorem ws_free {t : Tr} (h : t.good) {k : Nat} (hk : k = 10 ∨ k = 32) : ∀ x ∈ t.ws, k ∉ tl x := by
  have nm : ∀ {c : Str}, isName c = true → k ∉ tl c := fun h z => by
    unfold isName at h
    simp only [Bool.and_eq_true, List.all_eq_true, decide_eq_true_eq] at h
    have := h.2.2 k z
    rcases hk with rfl | rfl
    · exact absurd this (by decide +kernel)
    · exact absurd this (by decide +kernel)
  have lit : ∀ {w : Str}, (!(tl w).contains 10 && !(tl w).contains 32) = true → k ∉ tl w := fun h => by
    simp only [Bool.and_eq_true, Bool.not_eq_true', List.contains_eq_mem, decide_eq_false_iff_not] at h
    rcases hk with rfl | rfl
    · exact h.1
    · exact h.2
  induction t with
  | nt t ih =>
    intro x hx
    rcases List.mem_cons.mp hx with rfl | hx
    · exact lit (by decide +kernel)
    · exact ih h x hx
  | bin a t u ih1 ih2 =>
    intro x hx
    rcases List.mem_cons.mp hx with rfl | hx
    · exact lit (by cases a <;> decide +kernel)
    · rcases List.mem_append.mp hx with hx | hx
      · exact ih1 h.1 x hx
      · exact ih2 h.2 x hx
  | always =>
    intro x hx
    rw [List.mem_singleton.mp hx]
    exact lit (by decide +kernel)
  | never =>
    intro x hx
    rw [List.mem_singleton.mp hx]
    exact lit (by decide +kernel)
  | miss c =>
    intro x hx
    simp only [Tr.ws, List.mem_cons, List.not_mem_nil, or_false] at hx
    rcases hx with rfl | rfl
    · exact lit (by decide +kernel)
    · exact nm h
  | wi c ps =>
    intro x hx
    simp only [Tr.ws, List.mem_cons, List.not_mem_nil, or_false] at hx
    rcases hx with rfl | rfl | rfl
    · exact lit (by decide +kernel)
    · exact nm h.1
    · rcases hk with rfl | rfl
      · exact h.2.clean.1
      · exact h.2.clean.2.1
def Tr.text (t : Tr) : Str := Txt.join " " t.ws
end
end K85
end Sx

namespace Sx
namespace K85
open PySem PySem.Spec PyProof.Rows L2 TL
open LamX (Tabs TabS TabB ExtN)
theorem tl_join1 (ws : List Str) : tl (Txt.join " " ws) = joinL [32] (ws.map tl) := by
  rw [join_eq, tl_join]
  rfl
theorem text_split {t : Tr} (h : t.good) : Txt.split t.text " " = t.ws := by
  have hd : (tl ((" ") : Str)) = 32 :: [] := by decide
  refine TL.split_join (s := 32) (S := []) hd (by decide +kernel) (fun e => ?_) fun p hp => ws_free h (.inr rfl) p hp
  have := ws_ne t
  rw [e] at this
  exact absurd this (by decide)
theorem text_free {t : Tr} (h : t.good) : 10 ∉ tl t.text := by
  unfold Tr.text
  rw [tl_join1]
  refine joinL_free (by decide) fun p hp => ?_
  obtain ⟨x, hx, rfl⟩ := List.mem_map.mp hp
  exact ws_free h (.inl rfl) x hx
theorem text_len {t : Tr} (h : t.good) (hs : t.size ≤ 1000) : t.text.length ≤ 9400000 := by
  have h1 := join_len " " t.ws
  have h2 := ws_sum h hs
  have h3 := ws_size t
  have h4 : (((" ") : Str)).length = 1 := by decide
  rw [h4] at h1
  unfold Tr.text
  omega
section
variable {P : Program} {w : World} {K : PySem.W.Frag} {mg : Str → Option Value} {base : Heap} {MC : Addr → Prop} {T : List (Addr × Str)} {f fI C CR W g : Addr} {fd fdI : FuncData}
def F_readf (C : Addr) : FS {t : Tr // okR t} := { args := fun t => [.str t.1.text], st := fun _ => [], ret := fun t d η => d = filD C t.1 ∧ η = [] }
theorem k_readf (F : Fun K "read_filter" "read_filter" s_read_filter f fd) (GL : Cal P w K mg base 3 "lines_of" ["text"] (spOf ⟨K, MC, T⟩ (F_lines W))) (GF : Cal P w K mg base 108 "filter_from" ["words"] (spOf ⟨K, MC, T⟩ (F_filfrom W C))) (GN : Cal P w K mg base 1 "need_no_more" ["lines", "many"] (spOf ⟨K, MC, T⟩ F_nomore)) :
    FnOk P w K mg base CX0 109 f fd ["text"] (spOf ⟨K, MC, T⟩ (F_readf C)) :=
  ok_of _ F c_read_filter (fun _ => rfl) fun a cdv A outer s H E hr => by
    obtain ⟨t, gd, dp, sz, wl⟩ := a
    have sp := text_split gd
    have tl1 := text_len gd sz
    show SVs _ _ [some (.str t.text), none, none] [] _
    refine svs_cons (sv_as 1 (ev_cal0 GL (hr.mono (by decide)) (av_cons (ev_var (d := .str t.text) 0 rfl (av_nil ⟨⟨t.text, text_free gd, by omega, by rw [sp]; omega⟩, rfl, rfl, ?_, fun _ _ _ _ z => z⟩)))) c_read_filter.nd)
    rintro d η' ⟨L, z, l, rfl, rfl⟩
    show SVs _ _ [some (.str t.text), some (.ref L), none] (((L, .lst [.ref z]) :: Wst.st W ⟨z, l, Txt.split t.text " ", 0, 0, (Txt.split t.text " ").length⟩) ++ []) _
    rw [sp, List.append_nil]
    have at0 : (⟨z, l, t.ws, 0, 0, t.ws.length⟩ : Wst).At t.ws := ⟨⟨Nat.le_refl _, by show t.ws.length ≤ _; omega⟩, rfl, Nat.zero_add _, rfl⟩
    refine svs_cons (sv_as 2 (ev_cal GF hr (av_cons (ev_ix (fun _ _ => rfl) (ev_var (d := .ref L) 1 rfl (ev_int (xw_list List.mem_cons_self atI0 (av_nil ⟨⟨⟨⟨z, l, t.ws, 0, 0, t.ws.length⟩, t⟩, gd, dp, sz, wl, at0⟩, [(L, .lst [.ref z])], rfl, List.perm_append_comm (l₁ := [_]), ?_, fun _ _ _ _ z => z.elim⟩))))))) c_read_filter.nd)
    rintro d η' ⟨rfl, rfl⟩
    show SVs _ _ [some (.str t.text), some (.ref L), some (filD C t)] _ _
    refine svs_cons (sv_ex (ev_cal GN (hr.mono (by decide)) (av_cons (ev_var (d := .ref L) 1 rfl (av_cons (ev_int (av_nil ⟨(L, z), _, rfl, List.perm_append_comm, ?_, fun _ _ _ _ z => z.elim⟩)))))))
    rintro d η' ⟨rfl, rfl⟩
    exact svs_cons (sv_ret (ev_var (d := filD C t) 2 rfl (lose_nil ⟨rfl, rfl⟩)))
end
end K85
end Sx

namespace Sx
namespace K85
open PySem PySem.Spec PyProof.Rows L2 TL
open LamX (Tabs TabS TabB ExtN)
/-! the pen -/
def penD (c : Addr) (i l : Int) : Mo := .dic [(Sum.inr "cells", .ref c), (Sum.inr "at", .int i), (Sum.inr "left", .int l)]
theorem fmod_in {a m : Int} (h : 0 < m) : 0 ≤ a.fmod m ∧ a.fmod m < m := ⟨Int.fmod_nonneg_of_pos a h, Int.fmod_lt_of_pos a h⟩
theorem fdiv_pos {a m : Int} (ha : 0 ≤ a) (h : 0 < m) : 0 ≤ a.fdiv m := Int.fdiv_nonneg ha (Int.le_of_lt h)
section
variable {y : Sy} {ρ : Rho} {η : Sto} {Q : D → Sto → Prop} {p1 p2 p3 p4 p5 : Pos} {j : Nat} {x z : Str}
/-- int(pen[..]) -/
theorem ev_penInt {p : Addr} {kvs : List (Key × D)} {v : Int} (i : Nat) (hu : y.X.A.units + 1 < cLine) (h1 : y.X.mg "int" = none) (hd : ρ[i]? = some (some (.ref p))) (hm : (p, .dic kvs) ∈ η) (hv : valD kvs (Sum.inr x) = some (.int v)) (h : Q (.int v) η) (hN : y.X.N[i]? = some z := by rfl) (hvv : Vis y.X.env.scope z := by first | exact Or.inl rfl | exact Or.inr (Or.inl rfl) | exact Or.inr (Or.inr rfl))
    (hg : Gl y.X "int" := by rfl) (b1 : (z == ("__debug__" : Str)) = false := by decide) (b2 : (z == ("__classdict__" : Str)) = false := by decide) : EV y (.Call (.Name "int" p1) [.Subscript (.Name z p2) (.Constant (.str x) j p3) p4] [] p5) ρ η Q :=
  ev_callT h1 PySem.Pv.boot_int (av_cons (ev_dgetS hu (ev_var i hd ⟨p, kvs, .int v, rfl, hm, hv, av_nil (cw_int h)⟩ hN hvv b1 b2))) hg
end
section
variable {P : Program} {w : World} {K : PySem.W.Frag} {mg : Str → Option Value} {base : Heap} {MC : Addr → Prop} {T : List (Addr × Str)} {f C CW : Addr} {fd : FuncData}
def F_pen : FS {ns : List Int // ns.length ≤ 63} := { args := fun ns => [.ro (ns.1.map D.int)], st := fun _ => [], ret := fun ns d η => ∃ p c, d = .ref p ∧ η = [(p, penD c 0 0), (c, .lst (ns.1.map D.int))] }
theorem k_pen (F : Fun K "_law_pen" "_law_pen" s_law_pen f fd) (h1 : mg "list" = none) : FnOk P w K mg base CX0 1 f fd ["script"] (spOf ⟨K, MC, T⟩ F_pen) :=
  ok_of _ F c_law_pen (fun _ => rfl) fun a cdv A outer s H E hr => by
    obtain ⟨ns, hl⟩ := a
    have hl' : ns.length ≤ 63 := hl
    have cut : cutD (ns.map D.int) none (some 63) = ns.map D.int := by
      unfold cutD
      have h0 : HT.sIx (ns.map D.int).length 0 none = 0 := rfl
      have h1 : HT.sIx (ns.map D.int).length (ns.map D.int).length (some 63) = (ns.map D.int).length := by
        unfold HT.sIx
        rw [List.length_map]
        simp
        omega
      rw [h0, h1, Nat.sub_zero, List.drop_zero, List.take_length]
    refine svs_cons (sv_ret (ev_disp3 fun p => ev_str (ev_callT h1 PySem.Pv.boot_list (av_cons (ev_sliceRo (ev_var 0 rfl ?_))))))
    show OV _ none _ _ _
    refine ev_int ⟨63, rfl, ns.map D.int, rfl, fun q => ?_⟩
    rw [cut]
    refine av_nil (cw_lstL List.mem_cons_self fun c => ev_str (ev_int (ev_str (ev_int ?_))))
    refine ⟨[("cells", .ref c), ("at", .int 0), ("left", .int 0)], [(c, .lst (ns.map D.int)), (q, .lst (ns.map D.int))], rfl, by show ([("cells" : Str), "at", "left"] : List Str).Nodup; decide, by show 3 ≤ 15; decide, ?_, ?_⟩
    · exact (List.perm_append_comm (l₁ := [(c, Mo.lst (ns.map D.int)), (q, Mo.lst (ns.map D.int))]) (l₂ := [(p, Mo.dic [])]))
    · exact lose_sub (η1 := [(p, penD c 0 0), (c, .lst (ns.map D.int))]) (((List.nil_sublist _).cons_cons _).cons_cons _) ⟨p, c, rfl, rfl⟩
structure PenA where
  p : Addr
  c : Addr
  ns : List Int
  at_ : Int
  left : Int
def PenA.ok (a : PenA) : Prop := 0 ≤ a.at_ ∧ 0 ≤ a.left ∧ a.ns.length ≤ 63
def PenA.st (a : PenA) : Sto := [(a.p, penD a.c a.at_ a.left), (a.c, .lst (a.ns.map D.int))]
/-- the same pen, later -/
def PenA.later (a b : PenA) : Prop := b.ok ∧ b.p = a.p ∧ b.c = a.c ∧ b.ns = a.ns
def F_draw : FS {a : PenA × Int // a.1.ok ∧ 0 < a.2 ∧ a.2 ≤ 1000000} := { args := fun a => [.ref a.1.1.p, .int a.1.2], st := fun a => a.1.1.st, ret := fun a d η => ∃ v b, d = .int v ∧ 0 ≤ v ∧ v < a.1.2 ∧ a.1.1.later b ∧ η = b.st }
theorem k_draw (F : Fun K "_law_draw" "_law_draw" s_law_draw f fd) (h1 : mg "int" = none) (h2 : mg "len" = none) (h3 : mg "abs" = none) : FnOk P w K mg base CX0 1 f fd ["pen", "many"] (spOf ⟨K, MC, T⟩ F_draw) :=
  ok_of _ F c_law_draw (fun _ => rfl) fun a cdv A outer s H E hr => by
    obtain ⟨⟨⟨p, c, ns, i, l⟩, m⟩, ⟨h0, hl, hn⟩, m0, m1⟩ := a
    have h0 : 0 ≤ i := h0
    have hl : 0 ≤ l := hl
    have hn : ns.length ≤ 63 := hn
    have m0 : 0 < m := m0
    have m1 : m ≤ 1000000 := m1
    have hu := hu_of hr
    have mm : ∀ {i l : Int}, (p, penD c i l) ∈ ([(p, penD c i l), (c, .lst (ns.map D.int))] : Sto) := List.mem_cons_self
    have cm : ∀ {i l : Int}, (c, Mo.lst (ns.map D.int)) ∈ ([(p, penD c i l), (c, .lst (ns.map D.int))] : Sto) := List.mem_cons_of_mem _ List.mem_cons_self
    have dv : ∀ {x : Int}, CDivN x m := fun {x} => ⟨by omega, by omega⟩
    have sz : 3 < sizeLine := by rw [sizeLine_eq]; decide
    show SVs _ _ [some (.ref p), some (.int m), none, none, none, none, none, none] [(p, penD c i l), (c, .lst (ns.map D.int))] _
    -- if pen['left'] > 0
    refine svs_cons (sv_if (T := fun b η => η = [(p, penD c i l), (c, .lst (ns.map D.int))]) (tv_cmp (nomark _) (ev_dgetS hu (ev_var 0 rfl ⟨p, _, .int l, rfl, mm, rfl, ev_int (opw_gt ⟨_, rfl, rfl⟩)⟩))) ?_ ?_)
    · rintro η rfl
      refine svs_cons (sv_asg 2 (ev_bin (ev_penInt 0 hu h1 rfl mm rfl (ev_var 1 rfl (opw_mod (by omega) ?_)))) c_law_draw.nd)
      refine svs_cons (sv_dput hu (ev_bin (ev_penInt 0 hu h1 rfl mm rfl (ev_var 1 rfl (opw_fdiv dv (ev_var 0 rfl (ev_str ⟨p, _, _, rfl, mm, .str _, sz, ?_⟩)))))))
      rw [putM_here]
      refine svs_cons (sv_ret (ev_var (d := .int (l.fmod m)) 2 rfl (lose_id ⟨_, ⟨p, c, ns, i, l.fdiv m⟩, rfl, (fmod_in m0).1, (fmod_in m0).2, ⟨⟨h0, fdiv_pos hl m0, hn⟩, rfl, rfl, rfl⟩, rfl⟩)))
    · rintro η rfl
      refine svs_nil ?_
      -- at = int(pen['at'])
      refine svs_cons (sv_asg 3 (ev_penInt 0 hu h1 rfl mm rfl ?_) c_law_draw.nd)
      -- pen['at'] = at + 1
      refine svs_cons (sv_dput hu (ev_bin (ev_var 3 rfl (ev_int (opw_add (ev_var 0 rfl (ev_str ⟨p, _, _, rfl, mm, .str _, sz, ?_⟩)))))))
      rw [putM_here]
      show SVs _ _ [some (.ref p), some (.int m), none, some (.int i), none, none, none, none] [(p, penD c (i + 1) l), (c, .lst (ns.map D.int))] _
      -- cells = pen['cells']
      refine svs_cons (sv_asg 4 (ev_dgetS hu (ev_var 0 rfl ⟨p, _, .ref c, rfl, mm, rfl, ?_⟩)) c_law_draw.nd)
      -- cell = ..
      have pl : PdAt ([(p, penD c (i + 1) l), (c, Mo.lst (ns.map D.int))] : Sto) (.ref c) (.list (ns.map PyData.int)) := .lst cm (pd_map PdAt.int ns)
      have ieq : ∀ a b : Int, PyData.eqv (.int a) (.int b) = decide (a = b) := fun a b => by
        have := endP_eqv (some a) (some b)
        simpa [endP] using this
      have ilay : ∀ a : Int, (PyData.int a).canLay0 = true := fun a => endP_lay (o := some a)
      have idep : ∀ a : Int, (PyData.int a).depth ≤ 0 := fun a => Nat.le_of_eq (endP_depth (o := some a))
      have shp : ∀ xs : List Int, SeqAt.shaped (.list (xs.map PyData.int)) = true := fun xs => shapedL (n := 0) ilay idep (by decide) xs
      have tail : ∀ (cell : Int) (η : Sto), ([(p, penD c (i + 1) l), (c, Mo.lst (ns.map D.int))] : Sto).Sublist η → SVs (yBody P w K mg base MC T n_law_draw "_law_draw" (defScope s_law_draw) f cdv A outer s H E) ((defBody s_law_draw).drop 5) [some (.ref p), some (.int m), none, some (.int i), some (.ref c), some (.int cell), none, none] η { nx := fun _ η => Lose (F_draw.ret ⟨(⟨p, c, ns, i, l⟩, m), ⟨h0, hl, hn⟩, m0, m1⟩ .non) η, rt := fun d η => Lose (F_draw.ret ⟨(⟨p, c, ns, i, l⟩, m), ⟨h0, hl, hn⟩, m0, m1⟩ d) η } := by
        intro cell η sl
        refine SVs.drop sl ?_
        have vi : (some (D.int i) : Option D) = some (.int i) := rfl
        refine svs_cons (sv_if (T := fun b η => η = [(p, penD c (i + 1) l), (c, .lst (ns.map D.int))]) (tv_w (wv_and (T := fun b η => η = [(p, penD c (i + 1) l), (c, .lst (ns.map D.int))]) (tv_cmp (nomark _) ?_) ?_ (fun _ z => z))) ?_ ?_)
        · refine ev_var (d := .int i) 3 rfl (ev_callB h2 boot_len (av_cons (ev_var (d := .ref c) 4 rfl (av_nil (cw_lenL cm (opw_lt ⟨_, rfl, rfl⟩))))))
        · rintro η rfl
          exact wv_and1 (tv_cmp (nomark _) (ev_callB h3 boot_abs (av_cons (ev_var (d := .int cell) 5 rfl (av_nil (cw_abs (ev_bin (ev_int (ev_int (opw_pow ⟨by decide, by decide, by decide⟩ (opw_ge ⟨_, rfl, rfl⟩)))))))))))
        · rintro η rfl
          have sm : ∀ z : Int, CMul 2 z := fun z => .inl ⟨by decide, by decide⟩
          refine svs_cons (sv_asg 6 (ev_bin (ev_bin (ev_int (ev_callB h3 boot_abs (av_cons (ev_var (d := .int cell) 5 rfl (av_nil (cw_abs (opw_mul (sm _) ?_))))))))) c_law_draw.nd)
          refine ev_callT h1 PySem.Pv.boot_int (av_cons (ev_cmp (nomark _) (ev_var (d := .int cell) 5 rfl (ev_int (opw_lt (av_nil (cw_intB (opw_add ?_))))))))
          have rp : ∃ r : Int, 0 ≤ r ∧ r = 2 * (if cell < 0 then -cell else cell) + (if decide (cell < 0) then 1 else 0) := by
            refine ⟨_, ?_, rfl⟩
            split <;> split <;> omega
          obtain ⟨r, r0, er⟩ := rp
          rw [← er]
          refine svs_cons (sv_dput hu (ev_bin (ev_var (d := .int r) 6 rfl (ev_var (d := .int m) 1 rfl (opw_fdiv dv (ev_var (d := .ref p) 0 rfl (ev_str ⟨p, _, _, rfl, mm, .str _, sz, ?_⟩)))))))
          rw [putM_here]
          refine svs_cons (sv_ret (ev_bin (ev_callT h1 PySem.Pv.boot_int (av_cons (ev_var (d := .int r) 6 rfl (av_nil (cw_int (ev_var (d := .int m) 1 rfl (opw_mod (by omega) ?_)))))))))
          exact lose_id ⟨_, ⟨p, c, ns, i + 1, r.fdiv m⟩, rfl, (fmod_in m0).1, (fmod_in m0).2, ⟨⟨by show 0 ≤ i + 1; omega, fdiv_pos r0 m0, hn⟩, rfl, rfl, rfl⟩, rfl⟩
        · rintro η rfl
          refine svs_nil ?_
          have sr : ∀ a b : Int, -(2 ^ 64) < b → b < 2 ^ 64 → CMul a b := fun a b h1 h2 => .inr ⟨h1, h2⟩
          refine svs_cons (sv_asg 7 (ev_bin (ev_callT h1 PySem.Pv.boot_int (av_cons ?_))) c_law_draw.nd)
          refine ev_bin (ev_bin (ev_bin (ev_bin (ev_callT h1 PySem.Pv.boot_int (av_cons (ev_var (d := .int cell) 5 rfl (av_nil (cw_int (ev_int (opw_mod (by decide) (ev_int (opw_mul (sr _ _ (by decide) (by decide)) ?_))))))))))))
          refine ev_bin (ev_var (d := .int i) 3 rfl (ev_int (opw_mul (sr _ _ (by decide) (by decide)) (opw_add (ev_int (opw_add (av_nil (cw_int (ev_int (opw_mod (by decide) ?_))))))))))
          have one1 : ∃ v : Int, 0 ≤ v ∧ v < 2147483647 ∧ v = (cell.fmod 1000003 * 48271 + i * 69621 + 12345).fmod 2147483647 := ⟨_, (fmod_in (by decide)).1, (fmod_in (by decide)).2, rfl⟩
          obtain ⟨o1, o1a, o1b, eo1⟩ := one1
          rw [← eo1]
          refine svs_cons (sv_asg 7 (ev_bin (ev_callT h1 PySem.Pv.boot_int (av_cons ?_))) c_law_draw.nd)
          refine ev_bin (ev_bin (ev_bin (ev_callT h1 PySem.Pv.boot_int (av_cons (ev_bin (ev_var (d := .int o1) 7 rfl (ev_var (d := .int o1) 7 rfl (opw_mul (.inl ⟨by omega, by omega⟩) (av_nil (cw_int (ev_int (opw_mod (by decide) (ev_int (opw_mul (sr _ _ (by decide) (by decide)) ?_))))))))))))))
          refine ev_bin (ev_var (d := .int i) 3 rfl (ev_int (opw_mul (sr _ _ (by decide) (by decide)) (opw_add (av_nil (cw_int (ev_int (opw_mod (by decide) ?_))))))))
          refine svs_cons (sv_ret (ev_bin (ev_callT h1 PySem.Pv.boot_int (av_cons (ev_bin (ev_var 7 rfl (ev_int (opw_fdiv ⟨by decide, by decide⟩ (av_nil (cw_int (ev_var (d := .int m) 1 rfl (opw_mod (by omega) ?_))))))))))))
          exact lose_id ⟨_, ⟨p, c, ns, i + 1, l⟩, rfl, (fmod_in m0).1, (fmod_in m0).2, ⟨⟨by show 0 ≤ i + 1; omega, hl, hn⟩, rfl, rfl, rfl⟩, rfl⟩
      refine svs_cons (sv_asg 5 (ev_ifExp (T := fun b η => b = !decide (ns = []) ∧ ([(p, penD c (i + 1) l), (c, Mo.lst (ns.map D.int))] : Sto).Sublist η) (tv_cmp (nomark _) (ev_var (d := .ref c) 4 rfl (ev_lst (av_nil ⟨Nat.zero_le _, fun r => ?_⟩)))) ?_ ?_) c_law_draw.nd)
      · refine opw_neD (un64 hr) (.lst (List.mem_cons_of_mem _ cm) (pd_map PdAt.int ns)) (.lst List.mem_cons_self (pd_map PdAt.int [])) (shp ns) (shp []) ⟨_, rfl, ?_, List.sublist_cons_self _ _⟩
        rw [show PyData.eqv (.list (ns.map PyData.int)) (.list (([] : List Int).map PyData.int)) = decide (ns = []) from eqvL ieq _ _]
      · rintro η ⟨e, sl⟩
        have hne : ns ≠ [] := fun z => by rw [decide_eq_true z] at e; cases e
        have lp : 0 < (ns.length : Int) := by
          have : ns.length ≠ 0 := fun z => hne (List.length_eq_zero_iff.mp z)
          omega
        obtain ⟨f1, f2⟩ := fmod_in (a := i) lp
        obtain ⟨k, hk⟩ : ∃ k : Nat, i.fmod (ns.length : Int) = (k : Int) := ⟨(i.fmod (ns.length : Int)).toNat, by omega⟩
        have hkl : k < ns.length := by omega
        have mc : (c, Mo.lst (ns.map D.int)) ∈ η := sl.subset cm
        refine ev_callT h1 PySem.Pv.boot_int (av_cons (ev_ix (fun _ _ => rfl) (ev_var (d := .ref c) 4 rfl (ev_bin (ev_callT h1 PySem.Pv.boot_int (av_cons (ev_var (d := .int i) 3 rfl (av_nil (cw_int ?_)))))))))
        refine ev_callB h2 boot_len (av_cons (ev_var (d := .ref c) 4 rfl (av_nil (cw_lenL mc ?_))))
        rw [List.length_map]
        refine opw_mod (by omega) ?_
        rw [hk]
        refine xw_list mc (atI_pos (x := .int ns[k]) (by rw [List.getElem?_map, List.getElem?_eq_getElem hkl]; rfl)) (av_nil (cw_int ?_))
        exact tail _ _ sl
      · rintro η ⟨e, sl⟩
        refine ev_bin (ev_int (ev_var (d := .int i) 3 rfl (opw_mul (.inl ⟨by decide, by decide⟩) ?_)))
        exact tail _ _ sl
end
end K85
end Sx

namespace Sx
namespace K85
open PySem PySem.Spec PyProof.Rows L2 TL
open LamX (Tabs TabS TabB ExtN)
theorem PenA.later.trans {a b c : PenA} (h : a.later b) (k : b.later c) : a.later c := ⟨k.1, k.2.1.trans h.2.1, k.2.2.1.trans h.2.2.1, k.2.2.2.trans h.2.2.2⟩
theorem PenA.later.refl {a : PenA} (h : a.ok) : a.later a := ⟨h, rfl, rfl, rfl⟩
section
variable {y : Sy} {ρ : Rho} {η : Sto} {Q : D → Sto → Prop} {p1 p2 pos : Pos} {e : Expr} {z : Str}
theorem ev_draw {a : PenA} {ηr : Sto} (m : Int) (i : Nat) (G : Cal y.X.prog y.X.w y.X.K y.X.mg y.X.base 1 "_law_draw" ["pen", "many"] (spOf y.G F_draw)) (hr : Room 1 y.X.A) (hd : ρ[i]? = some (some (.ref a.p))) (ok : a.ok) (m0 : 0 < m) (m1 : m ≤ 1000000)
    (he : EV y e ρ (a.st ++ ηr) fun d η => d = .int m ∧ η = a.st ++ ηr) (h : ∀ v b, 0 ≤ v → v < m → a.later b → Q (.int v) (b.st ++ ηr)) (hN : y.X.N[i]? = some z := by rfl) (hv : Vis y.X.env.scope z := by first | exact Or.inl rfl | exact Or.inr (Or.inl rfl) | exact Or.inr (Or.inr rfl)) (hg : Gl y.X "_law_draw" := by rfl) (hs : noStar e = true := by rfl)
    (b1 : (z == ("__debug__" : Str)) = false := by decide) (b2 : (z == ("__classdict__" : Str)) = false := by decide) : EV y (.Call (.Name "_law_draw" p1) [.Name z p2, e] [] pos) ρ (a.st ++ ηr) Q := by
  refine ev_cal G hr (av_cons (ev_var i hd (av_cons (he.mono ?_) (star_cons hs)) hN hv b1 b2)) hg (by decide) rfl (by rw [List.all_cons, hs]; rfl)
  rintro d η ⟨rfl, rfl⟩
  refine av_nil ⟨⟨(a, m), ok, m0, m1⟩, ηr, rfl, List.Perm.refl _, ?_, fun _ _ _ _ z => z.elim⟩
  rintro d η' ⟨v, b, rfl, v0, v1, lt, rfl⟩
  exact h v b v0 v1 lt
end
section
variable {P : Program} {w : World} {K : PySem.W.Frag} {mg : Str → Option Value} {base : Heap} {MC : Addr → Prop} {T : List (Addr × Str)} {f C CW : Addr} {fd : FuncData}
def F_bound : FS {a : PenA // a.ok} := { args := fun a => [.ref a.1.p], st := fun a => a.1.st, ret := fun a d η => ∃ v b, d = .int v ∧ v.natAbs < 10 ^ 12 ∧ a.1.later b ∧ η = b.st }
theorem k_bound (F : Fun K "_law_bound" "_law_bound" s_law_bound f fd) (G : Cal P w K mg base 1 "_law_draw" ["pen", "many"] (spOf ⟨K, MC, T⟩ F_draw)) : FnOk P w K mg base CX0 2 f fd ["pen"] (spOf ⟨K, MC, T⟩ F_bound) :=
  ok_of _ F c_law_bound (fun _ => rfl) fun a cdv A outer s H E hr => by
    obtain ⟨a, ok⟩ := a
    have sgn : ∀ v : Int, 0 ≤ v → v < 2 → (1 - 2 * v = 1 ∨ 1 - 2 * v = -1) := fun v h1 h2 => by omega
    have sm : ∀ z : Int, CMul 2 z := fun z => .inl ⟨by decide, by decide⟩
    show SVs _ _ [some (.ref a.p), none] (a.st ++ []) _
    refine svs_cons (sv_asg 1 (ev_draw 5 0 G hr rfl ok (by decide) (by decide) (ev_int ⟨rfl, rfl⟩) fun pick b p0 p1 lb => ?_) c_law_bound.nd)
    have hb : a.p = b.p := lb.2.1.symm
    show SVs _ _ [some (.ref a.p), some (.int pick)] (b.st ++ []) _
    rw [hb]
    refine svs_cons (sv_if (T := fun t η => η = b.st ++ []) (tv_cmp (nomark _) (ev_var 1 rfl (ev_int (opw_lt ⟨_, rfl, rfl⟩)))) ?_ ?_)
    · rintro η rfl
      refine svs_cons (sv_ret (ev_bin (ev_draw (a := b) 14 0 G hr rfl lb.1 (by decide) (by decide) (ev_int ⟨rfl, rfl⟩) fun v c v0 v1 lc => ev_int (opw_sub ?_))))
      exact lose_id ⟨_, c, rfl, by omega, lb.trans lc, List.append_nil _⟩
    · rintro η rfl
      refine svs_nil (svs_cons (sv_if (T := fun t η => η = b.st ++ []) (tv_cmp (nomark _) (ev_var 1 rfl (ev_int (opw_eqI ⟨_, rfl, rfl⟩)))) ?_ ?_))
      · rintro η rfl
        refine svs_cons (sv_ret (ev_bin (ev_bin (ev_bin (ev_bin (ev_int (ev_int (opw_pow ⟨by decide, by decide, by decide⟩ (ev_int (opw_sub ?_))))))))))
        refine ev_draw (a := b) 3 0 G hr rfl lb.1 (by decide) (by decide) (ev_int ⟨rfl, rfl⟩) fun v c v0 v1 lc => opw_sub ?_
        have hc : b.p = c.p := lc.2.1.symm
        rw [hc]
        refine ev_bin (ev_int (ev_bin (ev_int (ev_draw (a := c) 2 0 G hr rfl lc.1 (by decide) (by decide) (ev_int ⟨rfl, rfl⟩) fun u d u0 u1 ld => opw_mul (sm _) (opw_sub (opw_mul ?_ (lose_id ⟨_, d, rfl, ?_, (lb.trans lc).trans ld, List.append_nil _⟩)))))))
        · exact .inr (by rcases sgn u u0 u1 with e | e <;> rw [e] <;> decide)
        · rcases sgn u u0 u1 with e | e
          · rw [e, Int.mul_one]
            show ((10 : Int) ^ (12 : Int).toNat - 1 - v).natAbs < 10 ^ 12
            have : ((10 : Int) ^ (12 : Int).toNat) = 1000000000000 := by decide
            rw [this]
            omega
          · rw [e]
            have : ((10 : Int) ^ (12 : Int).toNat) = 1000000000000 := by decide
            rw [this]
            omega
      · rintro η rfl
        refine svs_nil (svs_cons (sv_ret (ev_bin (ev_draw (a := b) 1000000 0 G hr rfl lb.1 (by decide) (by decide) ?_ fun v c v0 v1 lc => ?_))))
        · exact ev_bin (ev_int (ev_int (opw_pow ⟨by decide, by decide, by decide⟩ ⟨congrArg D.int (by decide), rfl⟩)))
        · have hc : b.p = c.p := lc.2.1.symm
          rw [hc]
          refine ev_bin (ev_int (ev_bin (ev_int (ev_draw (a := c) 2 0 G hr rfl lc.1 (by decide) (by decide) (ev_int ⟨rfl, rfl⟩) fun u d u0 u1 ld => opw_mul (sm _) (opw_sub (opw_mul ?_ (lose_id ⟨_, d, rfl, ?_, (lb.trans lc).trans ld, List.append_nil _⟩)))))))
          · exact .inr (by rcases sgn u u0 u1 with e | e <;> rw [e] <;> decide)
          · rcases sgn u u0 u1 with e | e <;> rw [e] <;> omega
/-! _law_ranges -/
theorem joinM_len (xs : List Stc) : (joinM xs).length ≤ xs.length := by
  have h1 := foldJ_len (sortM xs) []
  have h2 : (sortM xs).length = xs.length := List.length_mergeSort _
  rw [List.length_nil] at h1
  unfold joinM
  omega
theorem btw_len (s : Stc) : (btw s).length ≤ 1 := by
  unfold btw
  split <;> simp
theorem foldU_len : ∀ (xs acc : List Stc), (xs.foldl (fun acc s => joinM (acc ++ joinM (btw s))) acc).length ≤ acc.length + xs.length
  | [], acc => Nat.le_refl _
  | x :: xs, acc => by
    have h1 := foldU_len xs (joinM (acc ++ joinM (btw x)))
    have h2 := joinM_len (acc ++ joinM (btw x))
    have h3 := joinM_len (btw x)
    have h4 := btw_len x
    rw [List.length_append] at h2
    rw [List.foldl_cons, List.length_cons]
    omega
def argD (ps : List Stc) (o : Option Addr) : D := match o with
  | none => partsD ps
  | some a => .ref a
def F_lranges (C : Addr) : FS ({ps : List Stc // ps.length ≤ 100} × Option Addr) := { args := fun s => [argD s.1.1 s.2], st := fun s => match s.2 with | none => [] | some a => [(a, .lst (s.1.1.map stc))], ret := fun s d η => d = rng C (foldU s.1.1) ∧ η = [] }
theorem k_lranges {mc : Value} {p g p2 g2 go : Addr} (F : Fun K "_law_ranges" "_law_ranges" s_law_ranges f fd) (mC : mg "Ranges" = some (.ref C)) (r : ClX.CRead K C mc) (c : ClX.CMet K C mc "empty" p g) (KE : FnR P w K mg base CX0 6 g (spOf ⟨K, MC, T⟩ (F_empty C)))
    (c2 : ClX.CMet K C mc "between" p2 g2) (KB : FnR P w K mg base CX0 6 g2 (spOf ⟨K, MC, T⟩ (F_between C))) (O : OrOk P w K mg base MC T C go) : FnOk P w K mg base CX0 7 f fd ["parts"] (spOf ⟨K, MC, T⟩ (F_lranges C)) :=
  ok_of _ F c_law_ranges (fun _ => rfl) fun a cdv A outer s H E hr => by
    obtain ⟨⟨ps, hl⟩, o⟩ := a
    have hl : ps.length ≤ 100 := hl
    refine svs_cons (sv_asg 1 (ev_cm0 r c KE hr (ev_glob (v := .ref C) (d := .ref C) mC rfl (fun _ => at_ref.mpr rfl) ⟨rfl, (), F_lranges C |>.st (⟨ps, hl⟩, o), rfl, List.Perm.refl _, ?_, fun _ _ _ _ z => z.elim⟩)) c_law_ranges.nd)
    rintro d η' ⟨rfl, rfl⟩
    generalize hst : (F_lranges C).st (⟨ps, hl⟩, o) = st0
    refine svs_cons (sv_forI (.tp [2, 3]) PassesOwn.never rfl (pg_two rfl c_law_ranges.nd rfl rfl (Or.inl rfl) (Or.inl rfl) (Or.inl rfl) (Or.inl rfl)) (IV.mono (Q := fun items P η => items = ps.map stc ∧ η = st0 ∧ P st0) ?_ ?_))
    · cases o with
      | some a => exact iv_list (ev_var 0 rfl ⟨a, _, rfl, by rw [List.nil_append, ← hst]; exact List.mem_cons_self, rfl, rfl, by rw [← hst]; exact List.mem_cons_self⟩)
      | none => exact iv_tup (ev_var 0 rfl ⟨_, rfl, rfl, rfl, trivial⟩)
    · rintro items Pp η ⟨rfl, rfl, pp⟩
      refine ⟨fun i ρ' η' => η' = η ∧ ∃ v2 v3, ρ' = [some (argD ps o), some (rng C (foldU (ps.take i))), v2, v3], ?_, ⟨rfl, none, none, rfl⟩, ?_, ?_⟩
      · rintro i ρ' η' ⟨rfl, _⟩
        exact pp
      · rintro i d ρ' η' e ⟨rfl, v2, v3, rfl⟩
        rw [List.getElem?_map, Option.map_eq_some_iff] at e
        obtain ⟨x, e, rfl⟩ := e
        refine ⟨rfl, ?_⟩
        have lb : (foldU (ps.take i)).length + (joinM (btw x)).length ≤ 1000 := by
          have h1 := foldU_len (ps.take i) (joinM [])
          have h2 : (joinM ([] : List Stc)).length = 0 := by rw [joinM_nil]; rfl
          have h3 := joinM_len (btw x)
          have h4 := btw_len x
          rw [List.length_take] at h1
          unfold foldU
          omega
        refine svs_cons (sv_asg 1 (ev_bin (ev_var 1 rfl (ev_cm r c2 KB hr (ev_glob (v := .ref C) (d := .ref C) mC rfl (fun _ => at_ref.mpr rfl) ⟨rfl, av_cons (ev_var (d := endD x.1) 2 rfl (av_cons (ev_var (d := endD x.2) 3 rfl (av_nil ⟨x, η', rfl, List.Perm.refl _, ?_, fun _ _ _ _ z => z.elim⟩))))⟩)))) c_law_ranges.nd)
        rintro d η2 ⟨rfl, rfl⟩
        refine opw_own (op_ownB O.sf O.fi O.fn O.ok hr pas0) ⟨⟨(foldU (ps.take i), joinM (btw x)), lb⟩, η', rfl, List.Perm.refl _, ?_, fun _ _ _ _ z => z.elim⟩
        rintro d η2 ⟨rfl, rfl⟩
        exact svs_nil ⟨rfl, _, _, by rw [← foldU_next e]; rfl⟩
      · rintro ρ' η' ⟨rfl, v2, v3, rfl⟩
        rw [List.length_map, List.take_length]
        exact svs_cons (sv_ret (ev_var (d := rng C (foldU ps)) 1 rfl (lose_nil ⟨rfl, rfl⟩)))
end
end K85
end Sx

namespace Sx
namespace K85
open PySem PySem.Spec PyProof.Rows L2 TL
open LamX (Tabs TabS TabB ExtN)
theorem strP_eqv (a b : Str) : PyData.eqv (.str a) (.str b) = decide (a = b) := by
  simp only [PyData.eqv]
  by_cases h : a = b <;> simp [h]
theorem strOk_of {x : Str} (h : ∀ c ∈ tl x, c < 0x110000) : PyData.strOk x = true := by
  unfold PyData.strOk
  rw [← Array.all_toList, List.all_eq_true]
  intro c hc
  exact decide_eq_true (h c hc)
theorem low_end (o : Option Int) : ∀ c ∈ tl (endT o), c < 0x110000 := by
  cases o with
  | none => exact fun c hc => absurd hc List.not_mem_nil
  | some i =>
    intro c hc
    have hc : c ∈ tl (intS i) := hc
    rw [tl_int, List.mem_append] at hc
    rcases hc with hc | hc
    · split at hc
      · rw [List.mem_singleton] at hc
        omega
      · exact absurd hc List.not_mem_nil
    · have := numL_digits _ c hc
      omega
theorem low_part (s : Stc) : ∀ c ∈ tl (partT s), c < 0x110000 := by
  have hd : tl (("..") : Str) = [46, 46] := by decide
  unfold partT
  split
  · exact low_end _
  · intro c hc
    rw [tl_append, tl_append, List.mem_append, List.mem_append, hd] at hc
    rcases hc with (hc | hc) | hc
    · exact low_end _ c hc
    · simp at hc
      omega
    · exact low_end _ c hc
theorem low_joinL {S : List Nat} (hS : ∀ c ∈ S, c < 0x110000) : ∀ {ps : List (List Nat)}, (∀ p ∈ ps, ∀ c ∈ p, c < 0x110000) → ∀ c ∈ joinL S ps, c < 0x110000
  | [], _ => fun c hc => absurd hc List.not_mem_nil
  | [p], h => h p List.mem_cons_self
  | p :: p2 :: r, h => by
    intro c hc
    have hc : c ∈ p ++ (S ++ joinL S (p2 :: r)) := hc
    rw [List.mem_append, List.mem_append] at hc
    rcases hc with hc | hc | hc
    · exact h p List.mem_cons_self c hc
    · exact hS c hc
    · exact low_joinL hS (fun q hq => h q (List.mem_cons_of_mem _ hq)) c hc
theorem low_parts (ps : List Stc) : ∀ c ∈ tl (partsT ps), c < 0x110000 := by
  by_cases hp : ps = []
  · subst hp
    have e3 : tl (("-") : Str) = [45] := by decide
    show ∀ c ∈ tl (("-") : Str), c < 0x110000
    rw [e3]
    intro c hc
    rw [List.mem_singleton] at hc
    omega
  · rw [tl_parts hp]
    refine low_joinL (fun c hc => by rw [List.mem_singleton] at hc; omega) fun p hp => ?_
    obtain ⟨q, hq, rfl⟩ := List.mem_map.mp hp
    obtain ⟨s, _, rfl⟩ := List.mem_map.mp hq
    exact low_part s
theorem strP_lay {a : Str} (h : ∀ c ∈ tl a, c < 0x110000) : (PyData.str a).canLay0 = true := by simp [PyData.canLay0, strOk_of h]
theorem strP_depth (a : Str) : (PyData.str a).depth ≤ 0 := by simp [PyData.depth]
theorem strsP_lay : ∀ xs : List Str, (∀ x ∈ xs, ∀ c ∈ tl x, c < 0x110000) → PyData.canLayAll0 (xs.map PyData.str) = true
  | [], _ => by simp [PyData.canLayAll0]
  | x :: xs, h => by
    have := strP_lay (h x List.mem_cons_self)
    simp [PyData.canLayAll0, this, strsP_lay xs fun y hy => h y (List.mem_cons_of_mem _ hy)]
theorem shaped_strs (xs : List Str) (h : ∀ x ∈ xs, ∀ c ∈ tl x, c < 0x110000) : SeqAt.shaped (.list (xs.map PyData.str)) = true := by
  unfold SeqAt.shaped
  have := depth_map strP_depth xs
  rw [Bool.and_eq_true]
  refine ⟨by simp only [PyData.canLay0, strsP_lay xs h], decide_eq_true ?_⟩
  simp only [PyData.depth]
  omega
section
variable {P : Program} {w : World} {K : PySem.W.Frag} {mg : Str → Option Value} {base : Heap} {MC : Addr → Prop} {T : List (Addr × Str)} {f C CW : Addr} {fd : FuncData}
def F_ptext : FS {ps : List Stc // okPs ps} := { args := fun s => [partsD s.1], st := fun _ => [], ret := fun s d η => d = .str (partsT s.1) ∧ η = [] }
theorem k_ptext (F : Fun K "_law_parts_text" "_law_parts_text" s_law_parts_text f fd) (h1 : mg "str" = none) : FnOk P w K mg base CX0 1 f fd ["parts"] (spOf ⟨K, MC, T⟩ F_ptext) :=
  ok_of _ F c_law_parts_text (fun _ => rfl) fun a cdv A outer s H E hr => by
    obtain ⟨ps, h⟩ := a
    have hlen := h.2
    refine svs_cons (sv_asg 1 (ev_lst (av_nil ⟨Nat.zero_le _, fun q => ?_⟩)) c_law_parts_text.nd)
    refine svs_cons (sv_forT (.tp [2, 3]) PassesOwn.never rfl (pg_two rfl c_law_parts_text.nd rfl rfl (Or.inl rfl) (Or.inl rfl) (Or.inl rfl) (Or.inl rfl)) (ev_var 0 rfl ⟨_, fun i ρ' η' => η' = [(q, .lst (((ps.take i).map partT).map D.str))] ∧ ∃ v2 v3 v4 v5, ρ' = [some (partsD ps), some (.ref q), v2, v3, v4, v5], rfl, ⟨rfl, none, none, none, none, rfl⟩, ?_, ?_⟩))
    · rintro i d ρ' η' e ⟨rfl, v2, v3, v4, v5, rfl⟩
      rw [List.getElem?_map, Option.map_eq_some_iff] at e
      obtain ⟨x, e, rfl⟩ := e
      refine ⟨rfl, ?_⟩
      have hx : okS x := h.1 x (List.mem_of_getElem? e)
      have hb : ∀ o ∈ [x.1, x.2], okB o := fun o ho => by
        simp at ho
        rcases ho with rfl | rfl
        · exact hx.1
        · exact hx.2
      refine svs_cons (sv_setLcM (own := [("end", 5)]) 4 (.nm 5) [x.1, x.2] endD (fun o => D.str (endT o)) rfl c_law_parts_text.nd (blkOk_by (N := n_law_parts_text) (sc := defScope s_law_parts_text) (by decide +kernel)) (fun _ _ _ _ _ => pg_name c_law_parts_text.nd rfl (Or.inl rfl) (Or.inr rfl)) (by decide) ?_ (sw_true rfl rfl rfl (by decide +kernel)))
      refine iv_tup (ev_tup (av_cons (ev_var (d := endD x.1) 2 rfl (av_cons (ev_var (d := endD x.2) 3 rfl (av_nil ⟨by rw [sizeLine_eq]; show 2 ≤ 16777216; decide, _, rfl, rfl, trivial, by rw [sizeLine_eq]; show 2 < 16777216; decide, fun o ho => ⟨trivial, fun s' H' Cc cl fp => ev_endT (o := o) 5 h1 rfl (hb o ho) ⟨rfl, rfl⟩⟩, fun L => ?_⟩))))))
      have ml : ∀ {η : Sto}, (([(L, Mo.lst ([D.str (endT x.1), D.str (endT x.2)])), (q, .lst (((ps.take i).map partT).map D.str))] : Sto)).Sublist η → (L, Mo.lst (([endT x.1, endT x.2]).map D.str)) ∈ η := fun s => s.subset List.mem_cons_self
      show SVs _ _ [some (partsD ps), some (.ref q), some (endD x.1), some (endD x.2), some (.ref L), v5] [(L, Mo.lst ([D.str (endT x.1), D.str (endT x.2)])), (q, .lst (((ps.take i).map partT).map D.str))] _
      refine SVs.nd fun nd => svs_cons (sv_expr (ev_append (ev_var (d := .ref q) 1 rfl ⟨.inl ⟨rfl, _, List.mem_cons_of_mem _ List.mem_cons_self⟩, av_cons ?_⟩)))
      have l1 := endT_len hx.1
      have l2 := endT_len hx.2
      refine EV.mono (Q := fun d η1 => d = .str (partT x) ∧ η1 = [(L, Mo.lst ([D.str (endT x.1), D.str (endT x.2)])), (q, .lst (((ps.take i).map partT).map D.str))]) ?_ ?_
      · refine ev_ifExp (T := fun b η => b = (x.1.isSome && decide (x.1 = x.2)) ∧ η = [(L, Mo.lst ([D.str (endT x.1), D.str (endT x.2)])), (q, .lst (((ps.take i).map partT).map D.str))]) (tv_w (wv_and (T := fun b η => b = x.1.isSome ∧ η = [(L, Mo.lst ([D.str (endT x.1), D.str (endT x.2)])), (q, .lst (((ps.take i).map partT).map D.str))]) (tv_cmp (nomark _) (ev_var (d := endD x.1) 2 rfl (ev_non (opw_notN ⟨_, rfl, by cases x.1 <;> rfl, rfl⟩)))) ?_ ?_)) ?_ ?_
        · rintro η ⟨e2, rfl⟩
          exact wv_and1 (tv_cmp (nomark _) (ev_var (d := endD x.1) 2 rfl (ev_var (d := endD x.2) 3 rfl (opw_eqE ⟨_, rfl, by rw [← e2]; rfl, rfl⟩))))
        · rintro η ⟨e2, rfl⟩
          exact ⟨by rw [← e2]; rfl, rfl⟩
        · rintro η ⟨e2, rfl⟩
          refine ev_ix (fun _ _ => rfl) (ev_var (d := .ref L) 4 rfl (ev_int (xw_list List.mem_cons_self (atI_pos (i := 0) rfl) ⟨?_, rfl⟩)))
          unfold partT
          rw [if_pos e2.symm]
        · rintro η ⟨e2, rfl⟩
          refine ev_join (ev_str ⟨rfl, av_cons (ev_var (d := .ref L) 4 rfl (av_nil (mw_join (zs := [endT x.1, endT x.2]) List.mem_cons_self ?_ ⟨?_, rfl⟩)))⟩)
          · have l3 : (("..") : Str).length = 2 := by decide
            simp only [List.map_cons, List.map_nil, List.sum_cons, List.sum_nil, List.length_cons, List.length_nil, l3]
            omega
          · unfold partT
            rw [if_neg (by rw [← e2]; exact Bool.false_ne_true), join_eq]
            rfl
      · rintro d η1 ⟨rfl, rfl⟩
        refine av_nil (mw_append (List.mem_cons_of_mem _ List.mem_cons_self) ?_ ?_)
        · rw [sizeLine_eq, List.length_map, List.length_map, List.length_take]
          omega
        · rw [putM_2 nd]
          refine SVs.drop (η := [(q, .lst (((ps.take (i + 1)).map partT).map D.str))]) ?_ (svs_nil ⟨rfl, _, _, _, _, rfl⟩)
          rw [← map_take_next e, List.map_append]
          exact List.sublist_cons_self _ _
    · rintro ρ' η' ⟨rfl, v2, v3, v4, v5, rfl⟩
      rw [List.length_map, List.take_length]
      refine svs_cons (sv_ret (ev_ifExp (T := fun b η => b = decide (ps = []) ∧ ([(q, Mo.lst ((ps.map partT).map D.str))] : Sto).Sublist η) (tv_cmp (nomark _) (ev_var (d := .ref q) 1 rfl (ev_lst (av_nil ⟨Nat.zero_le _, fun r => ?_⟩)))) ?_ ?_))
      · refine opw_eqD (un64 hr) (.lst (List.mem_cons_of_mem _ List.mem_cons_self) (pd_map PdAt.str (ps.map partT))) (.lst List.mem_cons_self (pd_map PdAt.str [])) (shaped_strs _ fun x hx => by obtain ⟨s, _, rfl⟩ := List.mem_map.mp hx; exact low_part s) (shaped_strs [] fun x hx => absurd hx List.not_mem_nil) ⟨_, rfl, ?_, List.sublist_cons_self _ _⟩
        rw [show PyData.eqv (.list ((ps.map partT).map PyData.str)) (.list (([] : List Str).map PyData.str)) = decide (ps.map partT = []) from eqvL strP_eqv _ _]
        simp
      · rintro η ⟨e2, sl⟩
        refine ev_str (lose_nil ⟨?_, rfl⟩)
        unfold partsT
        rw [if_pos (of_decide_eq_true e2.symm)]
      · rintro η ⟨e2, sl⟩
        refine ev_join (ev_str ⟨rfl, av_cons (ev_var (d := .ref q) 1 rfl (av_nil (mw_join (zs := ps.map partT) (sl.subset List.mem_cons_self) ?_ (lose_nil ⟨?_, rfl⟩))))⟩)
        · have l3 : ((",") : Str).length = 1 := by decide
          have := partsT_len h
          rw [l3, List.length_map]
          omega
        · unfold partsT
          rw [if_neg (of_decide_eq_false e2.symm)]
end
end K85
end Sx

namespace Sx
namespace K85
open PySem PySem.Spec PyProof.Rows L2 TL
open LamX (Tabs TabS TabB ExtN)
/-! the stretches that the law draws -/
def gap (a b : Stc) : Prop := ∃ h l, a.2 = some h ∧ b.1 = some l ∧ h + 1 < l
structure Canon (ps : List Stc) : Prop where
  pw : ps.Pairwise gap
  ok : ∀ s ∈ ps, okS12 s
  ord : ∀ s ∈ ps, ∀ l h, s.1 = some l → s.2 = some h → l ≤ h
  len : ps.length ≤ 6
theorem Canon.lo {s : Stc} {r : List Stc} (c : Canon (s :: r)) : Canon ((none, s.2) :: r) := by
  have pw := List.pairwise_cons.mp c.pw
  refine ⟨List.pairwise_cons.mpr ⟨fun b hb => ?_, pw.2⟩, fun x hx => ?_, fun x hx => ?_, c.len⟩
  · obtain ⟨h, l, e1, e2, e3⟩ := pw.1 b hb
    exact ⟨h, l, e1, e2, e3⟩
  · rcases List.mem_cons.mp hx with rfl | hx
    · exact ⟨(fun i e => by cases e), (c.ok s List.mem_cons_self).2⟩
    · exact c.ok x (List.mem_cons_of_mem _ hx)
  · rcases List.mem_cons.mp hx with rfl | hx
    · intro l h e
      cases e
    · exact c.ord x (List.mem_cons_of_mem _ hx)
theorem Canon.hi {s : Stc} {r : List Stc} (c : Canon (r ++ [s])) : Canon (r ++ [(s.1, none)]) := by
  have pw := List.pairwise_append.mp c.pw
  refine ⟨List.pairwise_append.mpr ⟨pw.1, List.pairwise_singleton _ _, fun a ha b hb => ?_⟩, fun x hx => ?_, fun x hx => ?_, by have := c.len; simpa using this⟩
  · rw [List.mem_singleton] at hb
    subst hb
    obtain ⟨h, l, e1, e2, e3⟩ := pw.2.2 a ha s (List.mem_singleton.mpr rfl)
    exact ⟨h, l, e1, e2, e3⟩
  · rcases List.mem_append.mp hx with hx | hx
    · exact c.ok x (List.mem_append_left _ hx)
    · rw [List.mem_singleton] at hx
      subst hx
      exact ⟨(c.ok s (List.mem_append_right _ (List.mem_singleton.mpr rfl))).1, fun i e => nomatch e⟩
  · rcases List.mem_append.mp hx with hx | hx
    · exact c.ord x (List.mem_append_left _ hx)
    · rw [List.mem_singleton] at hx
      subst hx
      intro l h _ e
      cases e
abbrev Pr := Int × Int
def cz (acc : List Pr) : List Stc := acc.map fun s => (some s.1, some s.2)
/-- behind i pairs of the ends ns -/
structure Run (ns : List Int) (i : Nat) (acc : List Pr) : Prop where
  pw : acc.Pairwise fun a b => a.2 + 1 < b.1
  ok : ∀ s ∈ acc, s.1.natAbs < 10 ^ 12 ∧ s.2.natAbs < 10 ^ 12
  ord : ∀ s ∈ acc, s.1 ≤ s.2
  len : acc.length ≤ i
  from_ : ∀ s ∈ acc, ∃ j, j < 2 * i ∧ ns[j]? = some s.2
theorem Run.canon {ns : List Int} {i : Nat} {acc : List Pr} (r : Run ns i acc) (hi : i ≤ 6) : Canon (cz acc) := by
  refine ⟨List.Pairwise.map _ (fun a b h => ⟨a.2, b.1, rfl, rfl, h⟩) r.pw, fun s hs => ?_, fun s hs => ?_, ?_⟩
  · obtain ⟨a, ha, rfl⟩ := List.mem_map.mp hs
    exact ⟨fun j e => by cases e; exact (r.ok a ha).1, fun j e => by cases e; exact (r.ok a ha).2⟩
  · obtain ⟨a, ha, rfl⟩ := List.mem_map.mp hs
    intro l h e1 e2
    cases e1
    cases e2
    exact r.ord a ha
  · have := r.len
    unfold cz
    rw [List.length_map]
    omega
theorem Run.push {ns : List Int} {i : Nat} {acc : List Pr} {lo hi : Int} (r : Run ns i acc) (so : ns.Pairwise (· ≤ ·)) (e1 : ns[2 * i]? = some lo) (e2 : ns[2 * i + 1]? = some hi) (ok : ∀ v ∈ ns, v.natAbs < 10 ^ 12) (sep : ∀ s ∈ acc, s.2 + 1 < lo) : Run ns (i + 1) (acc ++ [(lo, hi)]) := by
  have le : lo ≤ hi := by
    obtain ⟨h1, e1⟩ := List.getElem?_eq_some_iff.mp e1
    obtain ⟨h2, e2⟩ := List.getElem?_eq_some_iff.mp e2
    have := List.pairwise_iff_getElem.mp so (2 * i) (2 * i + 1) h1 h2 (by omega)
    rw [e1, e2] at this
    exact this
  refine ⟨List.pairwise_append.mpr ⟨r.pw, List.pairwise_singleton _ _, fun a ha b hb => ?_⟩, fun s hs => ?_, fun s hs => ?_, by rw [List.length_append]; have := r.len; simp; omega, fun s hs => ?_⟩
  · rw [List.mem_singleton] at hb
    subst hb
    exact sep a ha
  · rcases List.mem_append.mp hs with hs | hs
    · exact r.ok s hs
    · rw [List.mem_singleton] at hs
      subst hs
      exact ⟨ok _ (List.mem_of_getElem? e1), ok _ (List.mem_of_getElem? e2)⟩
  · rcases List.mem_append.mp hs with hs | hs
    · exact r.ord s hs
    · rw [List.mem_singleton] at hs
      subst hs
      exact le
  · rcases List.mem_append.mp hs with hs | hs
    · obtain ⟨j, h1, h2⟩ := r.from_ s hs
      exact ⟨j, by omega, h2⟩
    · rw [List.mem_singleton] at hs
      subst hs
      exact ⟨2 * i + 1, by omega, e2⟩
theorem Run.grow {ns : List Int} {i : Nat} {pre : List Pr} {x : Pr} {lo hi : Int} (r : Run ns i (pre ++ [x])) (so : ns.Pairwise (· ≤ ·)) (e1 : ns[2 * i]? = some lo) (e2 : ns[2 * i + 1]? = some hi) (ok : ∀ v ∈ ns, v.natAbs < 10 ^ 12) : Run ns (i + 1) (pre ++ [(x.1, hi)]) := by
  have mx : x ∈ pre ++ [x] := List.mem_append_right _ (List.mem_singleton.mpr rfl)
  have le : x.2 ≤ hi := by
    obtain ⟨j, hj, ej⟩ := r.from_ x mx
    obtain ⟨h1, ej⟩ := List.getElem?_eq_some_iff.mp ej
    obtain ⟨h2, e2⟩ := List.getElem?_eq_some_iff.mp e2
    have := List.pairwise_iff_getElem.mp so j (2 * i + 1) h1 h2 (by omega)
    rw [ej, e2] at this
    exact this
  have pw := List.pairwise_append.mp r.pw
  refine ⟨List.pairwise_append.mpr ⟨pw.1, List.pairwise_singleton _ _, fun a ha b hb => ?_⟩, fun s hs => ?_, fun s hs => ?_, by have := r.len; rw [List.length_append] at this ⊢; simp at this ⊢; omega, fun s hs => ?_⟩
  · rw [List.mem_singleton] at hb
    subst hb
    exact pw.2.2 a ha x (List.mem_singleton.mpr rfl)
  · rcases List.mem_append.mp hs with hs | hs
    · exact r.ok s (List.mem_append_left _ hs)
    · rw [List.mem_singleton] at hs
      subst hs
      exact ⟨(r.ok x mx).1, ok _ (List.mem_of_getElem? e2)⟩
  · rcases List.mem_append.mp hs with hs | hs
    · exact r.ord s (List.mem_append_left _ hs)
    · rw [List.mem_singleton] at hs
      subst hs
      exact Int.le_trans (r.ord x mx) le
  · rcases List.mem_append.mp hs with hs | hs
    · obtain ⟨j, h1, h2⟩ := r.from_ s (List.mem_append_left _ hs)
      exact ⟨j, by omega, h2⟩
    · rw [List.mem_singleton] at hs
      subst hs
      exact ⟨2 * i + 1, by omega, e2⟩
theorem rg2 {n : Nat} (h : n ≤ 6) : RgC 0 ((2 * n : Nat) : Int) 2 n := by
  have : n = 0 ∨ n = 1 ∨ n = 2 ∨ n = 3 ∨ n = 4 ∨ n = 5 ∨ n = 6 := by omega
  rcases this with rfl | rfl | rfl | rfl | rfl | rfl | rfl <;> exact ⟨by decide, by decide, by decide +kernel, by decide +kernel⟩
theorem putM_app {a : Addr} {m : Mo} {r : Sto} : ∀ {l : Sto}, a ∉ l.map (·.1) → putM a m (l ++ r) = l ++ putM a m r
  | [], _ => rfl
  | (b, n) :: l, h => by
    rw [List.map_cons, List.mem_cons, not_or] at h
    rw [List.cons_append, putM_skip (fun e => h.1 e.symm), putM_app h.2]
    rfl
theorem putM_end {a : Addr} {m k : Mo} {l : Sto} (nd : ((l ++ [(a, k)]).map (·.1)).Nodup) : putM a m (l ++ [(a, k)]) = l ++ [(a, m)] := by
  rw [List.map_append, List.nodup_append] at nd
  rw [putM_app (fun h => nd.2.2 a h a List.mem_cons_self rfl), putM_here]
theorem cz_stc (acc : List Pr) (x : Pr) : (cz acc).map stc ++ [D.tup [.int x.1, .int x.2]] = (cz (acc ++ [x])).map stc := by
  unfold cz
  rw [List.map_append, List.map_append]
  rfl
section
variable {P : Program} {w : World} {K : PySem.W.Frag} {mg : Str → Option Value} {base : Heap} {MC : Addr → Prop} {T : List (Addr × Str)} {f C CW : Addr} {fd : FuncData}
def F_lparts : FS {a : PenA × Int // a.1.ok ∧ 0 ≤ a.2 ∧ a.2 ≤ 6} := { args := fun a => [.ref a.1.1.p, .int a.1.2], st := fun a => a.1.1.st, ret := fun a d η => ∃ ps b, d = partsD ps ∧ Canon ps ∧ a.1.1.later b ∧ η = b.st }
theorem k_lparts (F : Fun K "_law_parts" "_law_parts" s_law_parts f fd) (G : Cal P w K mg base 1 "_law_draw" ["pen", "many"] (spOf ⟨K, MC, T⟩ F_draw)) (GB : Cal P w K mg base 2 "_law_bound" ["pen"] (spOf ⟨K, MC, T⟩ F_bound)) (h1 : mg "sorted" = none) (h2 : mg "range" = none) (h3 : mg "len" = none) (h4 : mg "tuple" = none) :
    FnOk P w K mg base CX0 3 f fd ["pen", "most"] (spOf ⟨K, MC, T⟩ F_lparts) :=
  ok_of _ F c_law_parts (fun _ => rfl) fun a cdv A outer s H E hr => by
    obtain ⟨⟨a, m⟩, ok, m0, m6⟩ := a
    have m0 : 0 ≤ m := m0
    have m6 : m ≤ 6 := m6
    have hr1 : Room 1 _ := hr.mono (by decide)
    have two : 2 ≤ sizeLine := by rw [sizeLine_eq]; decide
    have mend : ∀ (c : PenA) (r : Addr) (m : Mo), (r, m) ∈ c.st ++ [(r, m)] := fun c r m => List.mem_append_right _ List.mem_cons_self
    have s5 : ∀ (c : PenA) (ps : List Stc) (r : Addr) (v4 v5 v6 v2 : Option D) (p0 : Addr), a.later c → c.p = p0 → Canon ps → SVs (yBody P w K mg base MC T n_law_parts "_law_parts" (defScope s_law_parts) f cdv A outer s H E) ((defBody s_law_parts).drop 5) [some (.ref p0), some (.int m), v2, some (.ref r), v4, v5, v6] (c.st ++ [(r, .lst (ps.map stc))])
        { nx := fun _ η => Lose (F_lparts.ret ⟨(a, m), ok, m0, m6⟩ .non) η, rt := fun d η => Lose (F_lparts.ret ⟨(a, m), ok, m0, m6⟩ d) η } := by
      intro c ps r v4 v5 v6 v2 p0 lc hp can
      exact svs_cons (sv_ret (ev_callT h4 PySem.Pv.boot_tuple (av_cons (ev_var (d := .ref r) 3 rfl (av_nil (cw_tupL (mend c r _) (lose_sub (List.sublist_append_left c.st _) ⟨ps, c, rfl, can, lc, rfl⟩)))))))
    have s4 : ∀ (c : PenA) (ps : List Stc) (r : Addr) (v4 v5 v6 v2 : Option D) (p0 : Addr), a.later c → c.p = p0 → Canon ps → SVs (yBody P w K mg base MC T n_law_parts "_law_parts" (defScope s_law_parts) f cdv A outer s H E) ((defBody s_law_parts).drop 4) [some (.ref p0), some (.int m), v2, some (.ref r), v4, v5, v6] (c.st ++ [(r, .lst (ps.map stc))])
        { nx := fun _ η => Lose (F_lparts.ret ⟨(a, m), ok, m0, m6⟩ .non) η, rt := fun d η => Lose (F_lparts.ret ⟨(a, m), ok, m0, m6⟩ d) η } := by
      intro c ps r v4 v5 v6 v2 p0 lc hp can
      refine svs_cons (sv_if (T := fun b η => ∃ c', a.later c' ∧ c'.p = p0 ∧ (b = true → ps ≠ []) ∧ (c'.st ++ [(r, Mo.lst (ps.map stc))]).Sublist η) (tv_w (wv_and (T := fun b η => b = !decide (ps = []) ∧ (c.st ++ [(r, Mo.lst (ps.map stc))]).Sublist η) (tv_cmp (nomark _) (ev_var (d := .ref r) 3 rfl (ev_lst (av_nil ⟨Nat.zero_le _, fun z => ?_⟩)))) ?_ ?_)) ?_ ?_)
      · refine opw_neD (un64 hr) (pd_lst (List.mem_cons_of_mem _ (mend c r _))) (pd_lst (ps := []) List.mem_cons_self) (shaped_lst _) (shaped_lst []) ⟨_, rfl, ?_, List.sublist_cons_self _ _⟩
        rw [show PyData.eqv (.list (ps.map pairP)) (.list (([] : List Stc).map pairP)) = decide (ps = []) from eqvL pairP_eqv _ _]
      · rintro η ⟨e, sl⟩
        refine WV.drop sl (wv_and1 (tv_cmp (nomark _) (ev_draw (a := c) 4 0 G hr1 (by rw [hp]; rfl) lc.1 (by decide) (by decide) (ev_int ⟨rfl, rfl⟩) fun v c' v0 v1 lc' => ev_int (opw_eqI ⟨_, rfl, c', lc.trans lc', lc'.2.1.trans hp, fun _ => ?_, List.Sublist.refl _⟩))))
        intro z
        rw [decide_eq_true z] at e
        cases e
      · rintro η ⟨e, sl⟩
        exact ⟨c, lc, hp, (fun z => nomatch z), sl⟩
      · rintro η ⟨c', lc', hp', hne, sl⟩
        obtain ⟨pre, x, rfl⟩ : ∃ pre x, ps = pre ++ [x] := by
          rcases List.eq_nil_or_concat ps with h | ⟨pre, x, h⟩
          · exact absurd h (hne rfl)
          · exact ⟨pre, x, by rw [h, List.concat_eq_append]⟩
        refine SVs.drop sl (SVs.nd fun nd => svs_cons (sv_setItem (ev_tup (av_cons (ev_lastLo 3 rfl (mend c' r _) (av_cons (ev_non (av_nil ⟨two, ?_⟩))))))))
        refine ev_var (d := .ref r) 3 rfl (ev_un (ev_int (unw_neg (sw_list (mend c' r _) (by rw [List.length_map, List.length_append]; exact ixN_last _) ?_))))
        rw [putM_end nd]
        have e : ((pre ++ [x]).map stc).set pre.length (D.tup [endD x.1, .non]) = (pre ++ [(x.1, none)]).map stc := by
          rw [List.map_append, List.map_append]
          simp [stc, endD]
        rw [e]
        exact svs_nil (s5 c' _ r v4 v5 v6 v2 p0 lc' hp' can.hi)
      · rintro η ⟨c', lc', hp', hne, sl⟩
        exact SVs.drop sl (svs_nil (s5 c' _ r v4 v5 v6 v2 p0 lc' hp' can))
    have s3 : ∀ (c : PenA) (ps : List Stc) (r : Addr) (v4 v5 v6 v2 : Option D) (p0 : Addr), a.later c → c.p = p0 → Canon ps → SVs (yBody P w K mg base MC T n_law_parts "_law_parts" (defScope s_law_parts) f cdv A outer s H E) ((defBody s_law_parts).drop 3) [some (.ref p0), some (.int m), v2, some (.ref r), v4, v5, v6] (c.st ++ [(r, .lst (ps.map stc))])
        { nx := fun _ η => Lose (F_lparts.ret ⟨(a, m), ok, m0, m6⟩ .non) η, rt := fun d η => Lose (F_lparts.ret ⟨(a, m), ok, m0, m6⟩ d) η } := by
      intro c ps r v4 v5 v6 v2 p0 lc hp can
      refine svs_cons (sv_if (T := fun b η => ∃ c', a.later c' ∧ c'.p = p0 ∧ (b = true → ps ≠ []) ∧ (c'.st ++ [(r, Mo.lst (ps.map stc))]).Sublist η) (tv_w (wv_and (T := fun b η => b = !decide (ps = []) ∧ (c.st ++ [(r, Mo.lst (ps.map stc))]).Sublist η) (tv_cmp (nomark _) (ev_var (d := .ref r) 3 rfl (ev_lst (av_nil ⟨Nat.zero_le _, fun z => ?_⟩)))) ?_ ?_)) ?_ ?_)
      · refine opw_neD (un64 hr) (pd_lst (List.mem_cons_of_mem _ (mend c r _))) (pd_lst (ps := []) List.mem_cons_self) (shaped_lst _) (shaped_lst []) ⟨_, rfl, ?_, List.sublist_cons_self _ _⟩
        rw [show PyData.eqv (.list (ps.map pairP)) (.list (([] : List Stc).map pairP)) = decide (ps = []) from eqvL pairP_eqv _ _]
      · rintro η ⟨e, sl⟩
        refine WV.drop sl (wv_and1 (tv_cmp (nomark _) (ev_draw (a := c) 4 0 G hr1 (by rw [hp]; rfl) lc.1 (by decide) (by decide) (ev_int ⟨rfl, rfl⟩) fun v c' v0 v1 lc' => ev_int (opw_eqI ⟨_, rfl, c', lc.trans lc', lc'.2.1.trans hp, fun _ => ?_, List.Sublist.refl _⟩))))
        intro z
        rw [decide_eq_true z] at e
        cases e
      · rintro η ⟨e, sl⟩
        exact ⟨c, lc, hp, (fun z => nomatch z), sl⟩
      · rintro η ⟨c', lc', hp', hne, sl⟩
        obtain ⟨x, rr, rfl⟩ : ∃ x rr, ps = x :: rr := List.exists_cons_of_ne_nil (hne rfl)
        refine SVs.drop sl (SVs.nd fun nd => svs_cons (sv_setItem (ev_tup (av_cons (ev_non (av_cons (ev_ix (fun _ _ => rfl) (ev_ix (fun _ _ => rfl) (ev_var (d := .ref r) 3 rfl (ev_int (xw_list (d := stc x) (mend c' r _) (atI_pos (i := 0) rfl) (ev_int (xw_tup (d := endD x.2) (by rfl) (av_nil ⟨two, ?_⟩))))))))))))))
        refine ev_var (d := .ref r) 3 rfl (ev_int (sw_list (k := 0) (mend c' r _) ?_ ?_))
        · rw [List.length_map, List.length_cons]
          unfold ixN
          rw [if_pos (by decide), if_pos (by omega)]
          rfl
        rw [putM_end nd]
        exact svs_nil (s4 c' ((none, x.2) :: rr) r v4 v5 v6 v2 p0 lc' hp' can.lo)
      · rintro η ⟨c', lc', hp', hne, sl⟩
        exact SVs.drop sl (svs_nil (s4 c' _ r v4 v5 v6 v2 p0 lc' hp' can))
    show SVs _ _ [some (.ref a.p), some (.int m), none, none, none, none, none] (a.st ++ []) _
    -- ends = sorted([..])
    refine svs_cons (sv_asg 2 (ev_callB h1 boot_sorted (av_cons (ev_lc (own := [("k", 4)]) (.nm 4) rfl c_law_parts.nd (blkOk_by (N := n_law_parts) (sc := defScope s_law_parts) (by decide +kernel)) (fun _ _ _ _ _ => pg_name c_law_parts.nd rfl (Or.inl rfl) (Or.inr rfl)) (by decide) ?_))) c_law_parts.nd)
    refine iv_rng1 h2 (av_cons (ev_bin (ev_int (ev_draw (a := a) (m + 1) 0 G hr1 rfl ok (by omega) (by omega) ?_ fun v b v0 v1 lb => opw_mul (.inl ⟨by decide, by decide⟩) (av_nil ⟨2 * v, rfl, by omega, by omega, ?_⟩)))))
    · exact ev_bin (ev_var (d := .int m) 1 rfl (ev_int (opw_add ⟨rfl, rfl⟩)))
    refine ⟨fun i acc η => ∃ (ns : List Int) (c : PenA), acc = ns.map D.int ∧ ns.length = i ∧ i ≤ (2 * v).toNat ∧ (∀ u ∈ ns, u.natAbs < 10 ^ 12) ∧ a.later c ∧ η = c.st, ?_, ⟨[], b, rfl, rfl, Nat.zero_le _, fun u hu => absurd hu List.not_mem_nil, lb, List.append_nil _⟩, ?_, ?_⟩
    · rintro i acc η ⟨ns, c, rfl, rfl, hi, _⟩
      refine ⟨trivial, ?_⟩
      rw [List.length_map, sizeLine_eq]
      omega
    · rintro i d acc η e ⟨ns, c, rfl, rfl, hi, hns, lc, rfl⟩
      obtain ⟨hlt, rfl⟩ := ints_get e
      refine ⟨trivial, fun s' H' Cc cl fp => ?_⟩
      have hc : a.p = c.p := lc.2.1.symm
      refine ev_cal GB hr (av_cons (ev_var (d := .ref a.p) 0 rfl (av_nil ⟨⟨c, lc.1⟩, [], by show [D.ref a.p] = [D.ref c.p]; rw [hc], by show c.st.Perm (c.st ++ []); rw [List.append_nil], ?_, fun _ _ _ _ z => z.elim⟩)))
      rintro d η ⟨u, b2, rfl, hu, lb2, rfl⟩
      refine ⟨ns ++ [u], b2, by rw [List.map_append]; rfl, by rw [List.length_append]; rfl, by omega, fun x hx => ?_, lc.trans lb2, List.append_nil _⟩
      rcases List.mem_append.mp hx with hx | hx
      · exact hns x hx
      · rw [List.mem_singleton] at hx
        rw [hx]
        exact hu
    · rintro acc η L ⟨ns0, c, rfl, hlen, _, hns0, lc, rfl⟩
      rw [ints_len] at hlen
      refine av_nil (cw_sortI List.mem_cons_self fun ns q perm so => ?_)
      have hns : ∀ u ∈ ns, u.natAbs < 10 ^ 12 := fun u hu => hns0 u (perm.mem_iff.mp hu)
      have nl : ns.length = (2 * v).toNat := by rw [perm.length_eq, hlen]
      obtain ⟨n, rfl⟩ : ∃ n : Nat, v = (n : Int) := ⟨v.toNat, by omega⟩
      have nl : ns.length = 2 * n := by omega
      have n6 : n ≤ 6 := by omega
      refine SVs.drop (η := (q, .lst (ns.map D.int)) :: c.st) ((List.sublist_cons_self _ _).cons_cons _) ?_
      have hc : a.p = c.p := lc.2.1.symm
      show SVs _ _ [some (.ref a.p), some (.int m), some (.ref q), none, none, none, none] ((q, .lst (ns.map D.int)) :: c.st) _
      rw [hc]
      -- found = []
      refine svs_cons (sv_asg 3 (ev_lst (av_nil ⟨Nat.zero_le _, fun r => ?_⟩)) c_law_parts.nd)
      -- the loop
      refine svs_cons (sv_forI (.nm 4) PassesOwn.never rfl (pg_name c_law_parts.nd rfl (Or.inl rfl)) (iv_rng3 h2 (av_cons (ev_int (av_cons (ev_callB h3 boot_len (av_cons (ev_var (d := .ref q) 2 rfl (av_nil (cw_lenL (List.mem_cons_of_mem _ List.mem_cons_self) (av_cons (ev_int (av_nil ⟨0, ((ns.map D.int).length : Int), 2, n, rfl, ?_, ?_⟩)))))))))))))
      · rw [List.length_map, nl]
        exact rg2 n6
      · refine ⟨fun i ρ' η' => ∃ acc v4 v5 v6, Run ns i acc ∧ ρ' = [some (.ref c.p), some (.int m), some (.ref q), some (.ref r), v4, v5, v6] ∧ η' = (r, .lst ((cz acc).map stc)) :: (q, .lst (ns.map D.int)) :: c.st, fun _ _ _ _ => trivial, ⟨[], none, none, none, ⟨List.Pairwise.nil, fun s hs => absurd hs List.not_mem_nil, fun s hs => absurd hs List.not_mem_nil, Nat.le_refl _, fun s hs => absurd hs List.not_mem_nil⟩, rfl, rfl⟩, ?_, ?_⟩
        · rintro i d ρ' η' e ⟨acc, v4, v5, v6, run, rfl, rfl⟩
          obtain ⟨hlt, ed⟩ := intsC_get e
          have ek : d = .int ((2 * i : Nat) : Int) := by
            rw [ed]
            congr 1
            omega
          subst ek
          refine ⟨trivial, ?_⟩
          have a1 : 2 * i < ns.length := by omega
          have a2 : 2 * i + 1 < ns.length := by omega
          obtain ⟨lo, elo⟩ : ∃ lo, ns[2 * i]? = some lo := ⟨_, List.getElem?_eq_getElem a1⟩
          obtain ⟨hi, ehi⟩ : ∃ hi, ns[2 * i + 1]? = some hi := ⟨_, List.getElem?_eq_getElem a2⟩
          have mq : (q, Mo.lst (ns.map D.int)) ∈ ((r, Mo.lst ((cz acc).map stc)) :: (q, .lst (ns.map D.int)) :: c.st : Sto) := List.mem_cons_of_mem _ List.mem_cons_self
          have i1 : atI (ns.map D.int) ((2 * i : Nat) : Int) = some (.int lo) := atI_pos (by rw [List.getElem?_map, elo]; rfl)
          have i2 : atI (ns.map D.int) (((2 * i : Nat) : Int) + 1) = some (.int hi) := by
            have : (((2 * i : Nat) : Int) + 1) = ((2 * i + 1 : Nat) : Int) := by omega
            rw [this]
            exact atI_pos (by rw [List.getElem?_map, ehi]; rfl)
          refine svs_cons (sv_par 5 6 rfl c_law_parts.nd (by decide) (av_cons (ev_ix (fun _ _ => rfl) (ev_var (d := .ref q) 2 rfl (ev_var (d := .int ((2 * i : Nat) : Int)) 4 rfl (xw_list mq i1 ?_))))))
          refine av_cons (ev_ix (fun _ _ => rfl) (ev_var (d := .ref q) 2 rfl (ev_bin (ev_var (d := .int ((2 * i : Nat) : Int)) 4 rfl (ev_int (opw_add (xw_list mq i2 (av_nil ⟨_, _, rfl, ?_⟩))))))))
          show SVs _ _ [some (.ref c.p), some (.int m), some (.ref q), some (.ref r), some (.int ((2 * i : Nat) : Int)), some (.int lo), some (.int hi)] ((r, Mo.lst ((cz acc).map stc)) :: (q, .lst (ns.map D.int)) :: c.st) _
          have small : ∀ {k : Nat}, k ≤ 6 → k < sizeLine := fun h => by rw [sizeLine_eq]; omega
          have al : acc.length ≤ 6 := by have := run.len; omega
          rcases List.eq_nil_or_concat acc with rfl | ⟨pre, x, rfl⟩
          · refine svs_cons (sv_if (T := fun b η => b = false ∧ ((r, Mo.lst ((cz []).map stc)) :: (q, .lst (ns.map D.int)) :: c.st : Sto).Sublist η) (tv_w (wv_and (T := fun b η => b = false ∧ ((r, Mo.lst ((cz []).map stc)) :: (q, .lst (ns.map D.int)) :: c.st : Sto).Sublist η) (tv_cmp (nomark _) (ev_var (d := .ref r) 3 rfl (ev_lst (av_nil ⟨Nat.zero_le _, fun z => ?_⟩)))) (fun _ z => nomatch z.1) (fun _ z => z))) (fun _ z => nomatch z.1) ?_)
            · exact opw_neD (un64 hr) (pd_lst (ps := []) (List.mem_cons_of_mem _ List.mem_cons_self)) (pd_lst (ps := []) List.mem_cons_self) (shaped_lst []) (shaped_lst []) ⟨_, rfl, by rw [eqvL pairP_eqv]; rfl, List.sublist_cons_self _ _⟩
            · rintro η1 ⟨_, sl⟩
              refine SVs.drop sl (svs_nil ?_)
              refine svs_cons (sv_expr (ev_append (ev_var (d := .ref r) 3 rfl ⟨.inl ⟨rfl, _, List.mem_cons_self⟩, av_cons (ev_tup (av_cons (ev_var (d := .int lo) 5 rfl (av_cons (ev_var (d := .int hi) 6 rfl (av_nil ⟨two, av_nil (mw_append List.mem_cons_self (small (Nat.zero_le _)) ?_)⟩))))))⟩)))
              rw [putM_here]
              exact svs_nil ⟨_, _, _, _, run.push so elo ehi hns fun s hs => absurd hs List.not_mem_nil, rfl, by rw [← cz_stc]⟩
          · rw [List.concat_eq_append] at run al ⊢
            have mr : ∀ {η1 : Sto}, ((r, Mo.lst ((cz (pre ++ [x])).map stc)) :: (q, .lst (ns.map D.int)) :: c.st : Sto).Sublist η1 → (r, Mo.lst ((cz pre ++ [(some x.1, some x.2)]).map stc)) ∈ η1 := fun s => by
              have := s.subset List.mem_cons_self
              rwa [show cz (pre ++ [x]) = cz pre ++ [(some x.1, some x.2)] by unfold cz; rw [List.map_append]; rfl] at this
            refine svs_cons (sv_if (T := fun b η => b = decide (lo ≤ x.2 + 1) ∧ ((r, Mo.lst ((cz (pre ++ [x])).map stc)) :: (q, .lst (ns.map D.int)) :: c.st : Sto).Sublist η) (tv_w (wv_and (T := fun b η => b = true ∧ ((r, Mo.lst ((cz (pre ++ [x])).map stc)) :: (q, .lst (ns.map D.int)) :: c.st : Sto).Sublist η) (tv_cmp (nomark _) (ev_var (d := .ref r) 3 rfl (ev_lst (av_nil ⟨Nat.zero_le _, fun z => ?_⟩)))) ?_ (fun _ z => nomatch z.1))) ?_ ?_)
            · refine opw_neD (un64 hr) (pd_lst (ps := cz (pre ++ [x])) (List.mem_cons_of_mem _ List.mem_cons_self)) (pd_lst (ps := []) List.mem_cons_self) (shaped_lst _) (shaped_lst []) ⟨_, rfl, ?_, List.sublist_cons_self _ _⟩
              rw [show PyData.eqv (.list ((cz (pre ++ [x])).map pairP)) (.list (([] : List Stc).map pairP)) = decide (cz (pre ++ [x]) = []) from eqvL pairP_eqv _ _, decide_eq_false (by simp [cz])]
              rfl
            · rintro η1 ⟨_, sl⟩
              exact wv_and1 (tv_cmp (nomark _) (ev_var (d := .int lo) 5 rfl (ev_bin (ev_lastHi (l := (some x.1, some x.2)) (pre := cz pre) 3 rfl (mr sl) (ev_int (opw_add (opw_le ⟨_, rfl, rfl, sl⟩)))))))
            · rintro η1 ⟨e2, sl⟩
              refine SVs.drop sl (SVs.nd fun nd => svs_cons (sv_asg 5 (ev_ix (fun _ _ => rfl) (ev_pop (ev_var (d := .ref r) 3 rfl ⟨.inl ⟨rfl, _, List.mem_cons_self⟩, mw_pop (ds := (cz pre).map stc) (d := stc (some x.1, some x.2)) ?_ (ev_int (xw_tup (d := .int x.1) (by rfl) ?_))⟩))) c_law_parts.nd))
              · rw [← cz_stc]
                exact List.mem_cons_self
              · rw [putM_here]
                refine svs_nil (svs_cons (sv_expr (ev_append (ev_var (d := .ref r) 3 rfl ⟨.inl ⟨rfl, _, List.mem_cons_self⟩, av_cons (ev_tup (av_cons (ev_var (d := .int x.1) 5 rfl (av_cons (ev_var (d := .int hi) 6 rfl (av_nil ⟨two, av_nil (mw_append List.mem_cons_self ?_ ?_)⟩))))))⟩))))
                · rw [List.length_map]
                  unfold cz
                  rw [List.length_map]
                  rw [List.length_append] at al
                  exact small (by omega)
                · rw [putM_here]
                  exact svs_nil ⟨_, _, _, _, run.grow so elo ehi hns, rfl, by rw [← cz_stc]⟩
            · rintro η1 ⟨e2, sl⟩
              have far : x.2 + 1 < lo := by
                have := of_decide_eq_false e2.symm
                omega
              refine SVs.drop sl (svs_nil ?_)
              refine svs_cons (sv_expr (ev_append (ev_var (d := .ref r) 3 rfl ⟨.inl ⟨rfl, _, List.mem_cons_self⟩, av_cons (ev_tup (av_cons (ev_var (d := .int lo) 5 rfl (av_cons (ev_var (d := .int hi) 6 rfl (av_nil ⟨two, av_nil (mw_append List.mem_cons_self ?_ ?_)⟩))))))⟩)))
              · rw [List.length_map]
                unfold cz
                rw [List.length_map]
                exact small al
              · rw [putM_here]
                refine svs_nil ⟨_, _, _, _, run.push so elo ehi hns fun s hs => ?_, rfl, by rw [← cz_stc (pre ++ [x]) (lo, hi)]⟩
                rcases List.mem_append.mp hs with hs | hs
                · have h1 := (List.pairwise_append.mp run.pw).2.2 s hs x (List.mem_singleton.mpr rfl)
                  have h2 := run.ord x (List.mem_append_right _ (List.mem_singleton.mpr rfl))
                  omega
                · rw [List.mem_singleton] at hs
                  rw [hs]
                  exact far
        · rintro ρ' η' ⟨acc, v4, v5, v6, run, rfl, rfl⟩
          rw [intsC_len] at run
          have can := run.canon n6
          have fin : (c.st ++ [(r, Mo.lst ((cz acc).map stc))] : Sto).Sublist (c.st ++ [(r, Mo.lst ((cz acc).map stc))]) := List.Sublist.refl _
          have z := s3 c (cz acc) r v4 v5 v6 (some (.ref q)) c.p lc rfl can
          refine SVs.sub (η' := c.st ++ [(r, .lst ((cz acc).map stc))]) ?zz (fun z hz => ?_) fun nd => ?_
          case zz =>
            refine (?_ : SVs (yBody P w K mg base MC T n_law_parts "_law_parts" (defScope s_law_parts) f cdv A outer s H E) _ _ _ _)
            refine (?_ : SVs _ ((defBody s_law_parts).drop 3) _ _ _)
            refine (?_ : SVs _ _ [some (.ref c.p), some (.int m), some (.ref q), some (.ref r), v4, v5, v6] _ _)
            refine (?_ : SVs _ _ _ _ { nx := fun _ η => Lose (F_lparts.ret ⟨(a, m), ok, m0, m6⟩ .non) η, rt := fun d η => Lose (F_lparts.ret ⟨(a, m), ok, m0, m6⟩ d) η })
            exact z
          · rcases List.mem_append.mp hz with hz | hz
            · exact List.mem_cons_of_mem _ (List.mem_cons_of_mem _ hz)
            · rw [List.mem_singleton] at hz
              rw [hz]
              exact List.mem_cons_self
          · have h1 : ((((r, Mo.lst ((cz acc).map stc)) :: c.st : Sto)).map (·.1)).Nodup := (((List.sublist_cons_self (q, Mo.lst (ns.map D.int)) c.st).cons_cons (r, Mo.lst ((cz acc).map stc))).map (fun (x : Addr × Mo) => x.1)).nodup nd
            exact ((List.perm_append_comm (l₁ := c.st) (l₂ := [(r, Mo.lst ((cz acc).map stc))])).map (fun (x : Addr × Mo) => x.1)).nodup_iff.mpr h1
end
end K85
end Sx

namespace Sx
namespace K85
open PySem PySem.Spec PyProof.Rows L2 TL
/-! ### plain laws of stretches -/
def lowLe (o p : Option Int) : Bool := match o, p with
  | none, _ => true
  | some _, none => false
  | some a, some b => decide (a ≤ b)
theorem ltKey_is (o p : Option Int) : ltKey o p = lowLe o p := by
  unfold ltKey PySem.W.dataLe PySem.W.sortLe keyP
  cases o <;> cases p <;> simp [PySem.W.keyToks, PySem.W.keyToksAll, PyProof.Rows.listOrd, PyProof.Rows.itemOrd, PyProof.Rows.lexLt, PyProof.Rows.itemLt, lowLe]
  rename_i i j
  by_cases h : i ≤ j
  · rw [decide_eq_true h, decide_eq_false (by omega)]
    rfl
  · rw [decide_eq_false h, decide_eq_true (by omega)]
    rfl
theorem low_trans {a b c : Option Int} (h : lowLe a b = true) (k : lowLe b c = true) : lowLe a c = true := by
  cases a <;> cases b <;> cases c <;> simp_all [lowLe]
  omega
theorem low_total (a b : Option Int) : (lowLe a b || lowLe b a) = true := by
  cases a <;> cases b <;> simp [lowLe]
  omega
theorem Canon.left {l r : List Stc} (c : Canon (l ++ r)) : Canon l :=
  ⟨(List.pairwise_append.mp c.pw).1, fun s hs => c.ok s (List.mem_append_left _ hs), fun s hs => c.ord s (List.mem_append_left _ hs), by have := c.len; rw [List.length_append] at this; omega⟩
theorem Canon.right {l r : List Stc} (c : Canon (l ++ r)) : Canon r :=
  ⟨(List.pairwise_append.mp c.pw).2.1, fun s hs => c.ok s (List.mem_append_right _ hs), fun s hs => c.ord s (List.mem_append_right _ hs), by have := c.len; rw [List.length_append] at this; omega⟩
theorem Canon.takes {ps : List Stc} (c : Canon ps) (i : Nat) : Canon (ps.take i) := by
  have := c
  rw [← List.take_append_drop i ps] at this
  exact this.left
theorem gap_low {a b : Stc} (g : gap a b) (o : ∀ l h, a.1 = some l → a.2 = some h → l ≤ h) : lowLe a.1 b.1 = true ∧ lowLe b.1 a.1 = false := by
  obtain ⟨h, l, e1, e2, e3⟩ := g
  rw [e2]
  cases e : a.1 with
  | none => exact ⟨rfl, rfl⟩
  | some x =>
    have := o x h e e1
    simp [lowLe]
    omega
theorem Canon.low {ps : List Stc} (c : Canon ps) : ps.Pairwise fun a b => lowLe a.1 b.1 = true ∧ lowLe b.1 a.1 = false :=
  List.Pairwise.imp_of_mem (fun {a b} ha hb g => gap_low g (c.ord a ha)) c.pw
theorem low_anti : ∀ {ps : List Stc}, (ps.Pairwise fun a b => lowLe a.1 b.1 = true ∧ lowLe b.1 a.1 = false) → ∀ a b, a ∈ ps → b ∈ ps → lowLe a.1 b.1 = true → lowLe b.1 a.1 = true → a = b
  | [], _, a, _, h, _, _, _ => absurd h List.not_mem_nil
  | p :: ps, pw, a, b, ha, hb, h1, h2 => by
    obtain ⟨q1, q2⟩ := List.pairwise_cons.mp pw
    rcases List.mem_cons.mp ha with rfl | ha
    · rcases List.mem_cons.mp hb with rfl | hb
      · rfl
      · have := (q1 b hb).2
        rw [this] at h2
        cases h2
    · rcases List.mem_cons.mp hb with e | hb
      · rw [e] at h1
        have := (q1 a ha).2
        rw [this] at h1
        cases h1
      · exact low_anti q2 a b ha hb h1 h2
theorem Canon.sorts {ps xs : List Stc} (c : Canon ps) (p : xs.Perm ps) : sortM xs = ps := by
  have e : sortM xs = xs.mergeSort fun u v => lowLe u.1 v.1 := by
    unfold sortM
    congr 1
    funext u v
    exact ltKey_is _ _
  rw [e]
  refine List.Perm.eq_of_pairwise (le := fun u v : Stc => lowLe u.1 v.1 = true) (fun a b ha hb => ?_) (List.pairwise_mergeSort (le := fun u v : Stc => lowLe u.1 v.1) (fun a b c => low_trans) (fun a b => low_total _ _) xs) (c.low.imp fun h => h.1) ((List.mergeSort_perm xs _).trans p)
  have ha : a ∈ ps := ((List.mergeSort_perm xs _).trans p).mem_iff.mp ha
  exact low_anti c.low a b ha hb
theorem fold_canon : ∀ {ps acc : List Stc}, (acc ++ ps).Pairwise gap → ps.foldl stepJ acc = acc ++ ps
  | [], acc, _ => (List.append_nil _).symm
  | s :: ps, acc, h => by
    have e : acc ++ s :: ps = (acc ++ [s]) ++ ps := by simp
    have st : stepJ acc s = acc ++ [s] := by
      rcases List.eq_nil_or_concat acc with rfl | ⟨pre, x, rfl⟩
      · rfl
      · rw [List.concat_eq_append] at h ⊢
        obtain ⟨hh, l, e1, e2, e3⟩ : gap x s := (List.pairwise_append.mp h).2.2 x (List.mem_append_right _ (List.mem_singleton.mpr rfl)) s List.mem_cons_self
        have t : touch s.1 x.2 = false := by
          rw [e1, e2]
          exact decide_eq_false (by omega)
        rw [stepJ_app, t, if_neg Bool.false_ne_true]
    rw [List.foldl_cons, st, e]
    exact fold_canon (by rw [← e]; exact h)
theorem Canon.joins {ps xs : List Stc} (c : Canon ps) (p : xs.Perm ps) : joinM xs = ps := by
  unfold joinM
  rw [c.sorts p]
  exact fold_canon (acc := []) c.pw
theorem Canon.btw {ps : List Stc} (c : Canon ps) {s : Stc} (h : s ∈ ps) : joinM (btw s) = [s] := by
  have : isE s.1 s.2 = false := by
    unfold isE
    split
    · rename_i i j e1 e2
      have := c.ord s h i j e1 e2
      exact decide_eq_false (by omega)
    · rfl
  unfold K85.btw
  rw [this, if_neg Bool.false_ne_true, joinM_one]
theorem fold_up : ∀ {qs acc : List Stc}, Canon (acc ++ qs) → qs.foldl (fun acc s => joinM (acc ++ joinM (btw s))) acc = acc ++ qs
  | [], acc, _ => (List.append_nil _).symm
  | s :: qs, acc, c => by
    have e : acc ++ s :: qs = (acc ++ [s]) ++ qs := by simp
    rw [List.foldl_cons, c.btw (List.mem_append_right _ List.mem_cons_self), e]
    rw [e] at c
    rw [c.left.joins (List.Perm.refl _)]
    exact fold_up c
theorem fold_down : ∀ {qs acc : List Stc}, Canon (qs.reverse ++ acc) → qs.foldl (fun acc s => joinM (acc ++ joinM (btw s))) acc = qs.reverse ++ acc
  | [], acc, _ => rfl
  | s :: qs, acc, c => by
    have e : (s :: qs).reverse ++ acc = qs.reverse ++ (s :: acc) := by simp
    rw [e] at c ⊢
    rw [List.foldl_cons, c.btw (List.mem_append_right _ List.mem_cons_self), c.right.joins (List.perm_append_comm (l₁ := acc) (l₂ := [s]))]
    exact fold_down c
theorem Canon.good {ps : List Stc} (c : Canon ps) : Good ps where
  ok := c.ok
  len := by have := c.len; omega
  fold := fun i => by
    unfold foldU
    rw [joinM_nil]
    exact fold_up (acc := []) (c.takes i)
theorem Canon.turned {ps : List Stc} (c : Canon ps) : foldU ps.reverse = ps := by
  unfold foldU
  rw [joinM_nil, fold_down (acc := []) (by rw [List.reverse_reverse, List.append_nil]; exact c), List.reverse_reverse, List.append_nil]
end K85
end Sx

namespace Sx
namespace K85
open PySem PySem.Spec PyProof.Rows L2 TL
/-! ### the sizes of what repr tells -/
theorem intS_len12 {i : Int} (h : i.natAbs < 10 ^ 12) : (intS i).length ≤ 13 := by
  have := numL_len (k := 12) (by decide) h
  rw [len_tl, tl_int, List.length_append]
  split <;> simp only [List.length_cons, List.length_nil] <;> omega
/-- what repr asks of data, and that it tells no more than a line holds -/
structure Tells (d : PyData) : Prop where
  sh : d.showable = true
  nd : d.hasDict = false
  dp : d.depth ≤ 50
  sz : d.shown.length ≤ sizeLine
theorem tells_of {d : PyData} (h1 : d.canLay0 = true) (h2 : d.depth ≤ 50) (h3 : d.weight ≤ 2 ^ 20) (h4 : d.intsShort 13 = true) (h5 : d.showable = true) : Tells d := by
  refine ⟨h5, PyData.hasDict_of_canLay d h1, h2, ?_⟩
  have : PyData.layable0 d = true := by
    unfold PyData.layable0
    rw [h1, decide_eq_true (show d.depth ≤ 64 by omega), decide_eq_true h3]
    rfl
  have := shown_le13 this h4
  rw [sizeLine_eq]
  omega
theorem tells_texts {t : Str} (h1 : ∀ c ∈ tl t, c < 0x110000) (h2 : t.length ≤ 100000) : Tells (.list [.str t, .str t, .str t]) := by
  have hc := strP_lay h1
  have hw : (PyData.str t).weight ≤ 100000 := by
    simp only [PyData.weight]
    exact h2
  refine tells_of ?_ ?_ ?_ ?_ ?_
  · simp [PyData.canLay0, PyData.canLayAll0, strOk_of h1]
  · simp [PyData.depth, PyData.depthAll]
  · simp only [PyData.weight, PyData.weightAll] at hw ⊢
    omega
  · simp [PyData.intsShort, PyData.intsShortAll]
  · simp [PyData.showable, PyData.showableAll]
theorem end_short {o : Option Int} (h : ok12 o) : (endP o).intsShort 13 = true ∧ (endP o).showable = true ∧ (endP o).weight ≤ 50 := by
  cases o with
  | none => exact ⟨rfl, rfl, Nat.zero_le _⟩
  | some i =>
    have hi := h i rfl
    have lg := log_of (i := i) (by omega)
    refine ⟨?_, ?_, ?_⟩
    · simp only [endP, PyData.intsShort, decide_eq_true_eq]
      exact intS_len12 hi
    · simp [endP, PyData.showable, lg]
    · simp only [endP, PyData.weight]
      split
      · omega
      · rename_i h0
        have h0 : i.natAbs ≠ 0 := fun z => h0 (by simp [Int.natAbs_eq_zero.mp z])
        have := (Nat.log2_lt h0 (k := 40)).mpr (by omega)
        omega
theorem pairs_short : ∀ {ps : List Stc}, (∀ s ∈ ps, okS12 s) → PyData.intsShortAll 13 (ps.map pairP) = true ∧ PyData.showableAll (ps.map pairP) = true ∧ PyData.weightAll (ps.map pairP) ≤ 200 * ps.length
  | [], _ => ⟨rfl, rfl, Nat.zero_le _⟩
  | s :: ps, h => by
    obtain ⟨a1, a2, a3⟩ := pairs_short fun x hx => h x (List.mem_cons_of_mem _ hx)
    obtain ⟨b1, b2, b3⟩ := end_short (h s List.mem_cons_self).1
    obtain ⟨c1, c2, c3⟩ := end_short (h s List.mem_cons_self).2
    refine ⟨?_, ?_, ?_⟩
    · simp [PyData.intsShortAll, pairP, PyData.intsShort, a1, b1, c1]
    · simp [PyData.showableAll, pairP, PyData.showable, a2, b2, c2]
    · simp only [List.map_cons, PyData.weightAll, pairP, PyData.weight, List.length_cons]
      omega
theorem tells_parts {ps : List Stc} (c : Canon ps) : Tells (.list [.tuple (ps.map pairP), .tuple (ps.map pairP)]) := by
  obtain ⟨a1, a2, a3⟩ := pairs_short c.ok
  have hl := c.len
  have h1 := canLay_map (g := pairP) (fun _ => pairP_lay) ps
  have h2 := depth_map (g := pairP) (n := 1) (fun _ => Nat.le_of_eq pairP_depth) ps
  refine tells_of ?_ ?_ ?_ ?_ ?_
  · simp [PyData.canLay0, PyData.canLayAll0, h1]
  · simp only [PyData.depth, PyData.depthAll]
    omega
  · simp only [PyData.weight, PyData.weightAll]
    omega
  · simp [PyData.intsShort, PyData.intsShortAll, a1]
  · simp [PyData.showable, PyData.showableAll, a2]
end K85
end Sx

namespace Sx
namespace K85
open PySem PySem.Spec PyProof.Rows L2 TL
open LamX (Tabs TabS TabB ExtN)
/-! names -/
def words1 : List Str := ["in", "table", "key", "site", "home", "feed", "own", "none", "put", "once", "fixed", "unique", "never"]
def words2 : List Str := ["always", "missing", "rest", "wait", "stamped", "make", "insert", "falls", "copy"]
theorem words_names : (words1 ++ words2).all isName = true := by decide +kernel
theorem name_of {x : Str} (h1 : 1 ≤ x.length) (h2 : x.length ≤ 8) (h3 : ∀ c ∈ tl x, c ∈ letters.cps.toList) : isName x = true := by
  unfold isName
  rw [decide_eq_true h1, decide_eq_true h2, Bool.true_and, Bool.true_and]
  exact List.all_eq_true.mpr fun c hc => decide_eq_true (h3 c hc)
section
variable {P : Program} {w : World} {K : PySem.W.Frag} {mg : Str → Option Value} {base : Heap} {MC : Addr → Prop} {T : List (Addr × Str)} {f C CW : Addr} {fd : FuncData}
def F_lname : FS {a : PenA // a.ok} := { args := fun a => [.ref a.1.p], st := fun a => a.1.st, ret := fun a d η => ∃ x b, d = .str x ∧ isName x = true ∧ a.1.later b ∧ η = b.st }
theorem k_lname (F : Fun K "_law_name" "_law_name" s_law_name f fd) (G : Cal P w K mg base 1 "_law_draw" ["pen", "many"] (spOf ⟨K, MC, T⟩ F_draw)) (h1 : mg "len" = none) (h2 : mg "range" = none) : FnOk P w K mg base CX0 2 f fd ["pen"] (spOf ⟨K, MC, T⟩ F_lname) :=
  ok_of _ F c_law_name (fun _ => rfl) fun a cdv A outer s H E hr => by
    obtain ⟨a, ok⟩ := a
    have ok : a.ok := ok
    show SVs _ _ [some (.ref a.p), none, none, none] a.st _
    refine svs_cons (sv_as 1 (ev_litL (words1.map D.str) fun q1 => ?_) c_law_name.nd)
    refine svs_cons (sv_as 1 (ev_bin (ev_var (d := .ref q1) 1 rfl (ev_litL (words2.map D.str) fun q2 => opw_catL (List.mem_cons_of_mem _ List.mem_cons_self) List.mem_cons_self (by rw [sizeLine_eq]; decide) fun q => ?_))) c_law_name.nd)
    rw [← List.map_append]
    refine SVs.drop (η := (q, .lst ((words1 ++ words2).map D.str)) :: a.st) (((List.sublist_cons_self _ _).trans (List.sublist_cons_self _ _)).cons_cons _) (SVs.perm (η := a.st ++ [(q, .lst ((words1 ++ words2).map D.str))]) List.perm_append_comm ?_)
    show SVs _ _ [some (.ref a.p), some (.ref q), none, none] (a.st ++ [(q, .lst ((words1 ++ words2).map D.str))]) _
    refine svs_cons (sv_ifC (tv_cmp (nomark _) (ev_draw 3 0 G hr rfl ok (by decide) (by decide) (ev_int ⟨rfl, rfl⟩) fun v b v0 v1 lb => ev_int (opw_eqI ⟨_, rfl, fun _ => ?_, fun _ => svs_nil ?_⟩))))
    · rw [show a.p = b.p from lb.2.1.symm]
      refine svs_cons (sv_ret (ev_ix (fun _ _ => rfl) (ev_var (d := .ref q) 1 rfl (ev_draw (a := b) 22 0 G hr rfl lb.1 (by decide) (by decide) (ev_callB h1 boot_len (av_cons (ev_var (d := .ref q) 1 rfl (av_nil (cw_lenL (List.mem_append_right _ List.mem_cons_self) ⟨by rw [List.length_map]; rfl, rfl⟩))))) fun u c u0 u1 lc => ?_))))
      obtain ⟨x, mx, ex, _⟩ := atI_in (xs := words1 ++ words2) u0 u1
      have nx : isName x = true := List.all_eq_true.mp words_names x mx
      refine xw_list (List.mem_append_right _ List.mem_cons_self) (d := .str x) ?_ (lose_sub (List.sublist_append_left _ _) ⟨x, c, rfl, nx, lb.trans lc, rfl⟩)
      obtain ⟨n, rfl⟩ : ∃ n : Nat, u = n := ⟨u.toNat, (Int.toNat_of_nonneg u0).symm⟩
      exact atI_pos (by rw [List.getElem?_map, show (words1 ++ words2)[n]? = some x from ex]; rfl)
    · refine svs_cons (sv_as 2 (ev_str ?_) c_law_name.nd)
      rw [show a.p = b.p from lb.2.1.symm]
      refine svs_cons (sv_forI (.nm 3) PassesOwn.never rfl (pg_name c_law_name.nd rfl (Or.inl rfl)) (iv_rng1 h2 (av_cons (ev_ix (fun _ _ => rfl) (ev_litL (([1, 1, 2, 3, 8] : List Int).map D.int) fun q2 => EV.perm List.perm_middle (ev_draw (a := b) 5 0 G hr rfl lb.1 (by decide) (by decide) (ev_int ⟨rfl, rfl⟩) fun u c u0 u1 lc => ?_))))))
      obtain ⟨n, mn, ex, _⟩ := atI_in (xs := ([1, 1, 2, 3, 8] : List Int)) u0 u1
      obtain ⟨k, rfl⟩ : ∃ k : Nat, u = k := ⟨u.toNat, (Int.toNat_of_nonneg u0).symm⟩
      have nn : 1 ≤ n ∧ n ≤ 8 := by
        have : ([1, 1, 2, 3, 8] : List Int).all (fun n => decide (1 ≤ n ∧ n ≤ 8)) = true := by decide
        exact of_decide_eq_true (List.all_eq_true.mp this n mn)
      refine xw_list (List.mem_append_right _ List.mem_cons_self) (d := .int n) (atI_pos (by rw [List.getElem?_map, show ([1, 1, 2, 3, 8] : List Int)[k]? = some n from ex]; rfl)) (av_nil ⟨n, rfl, by omega, by omega, ?_⟩)
      rw [show b.p = c.p from lc.2.1.symm]
      refine ⟨fun i ρ' η' => ∃ (e : PenA) (x : Str) (v : Option D), c.later e ∧ x.length = i ∧ (∀ c ∈ tl x, c ∈ letters.cps.toList) ∧ ρ' = [some (.ref e.p), some (.ref q), some (.str x), v] ∧ η' = e.st ++ [(q2, .lst (([1, 1, 2, 3, 8] : List Int).map D.int)), (q, .lst ((words1 ++ words2).map D.str))], fun _ _ _ _ => trivial, ⟨c, "", none, PenA.later.refl lc.1, rfl, (by intro c hc; exact absurd hc List.not_mem_nil), rfl, rfl⟩, ?_, ?_⟩
      · rintro i d ρ' η' ed ⟨e, x, v, le, xl, xa, rfl, rfl⟩
        obtain ⟨il, rfl⟩ := ints_get ed
        have hx : x.length < 8 := by omega
        refine ⟨trivial, svs_cons (sv_as 2 (ev_bin (ev_var (d := .str x) 2 rfl (ev_ix (fun _ _ => rfl) (ev_str (ev_draw (a := e) 26 0 G hr rfl le.1 (by decide) (by decide) (ev_int ⟨rfl, rfl⟩) fun t e' t0 t1 le' => ?_))))) c_law_name.nd)⟩
        obtain ⟨c', mc, _, ec⟩ := atI_in (xs := letters.cps.toList) t0 t1
        refine xw_str (by rw [sizeLine_eq]; decide) ec (opw_addS (by rw [sizeLine_eq]; show x.length + 1 ≤ _; omega) ?_)
        refine svs_nil ⟨e', x ++ ⟨#[c']⟩, _, le.trans le', ?_, ?_, by rw [show e.p = e'.p from le'.2.1.symm]; rfl, rfl⟩
        · rw [len_app, xl]
          rfl
        · intro z hz
          rw [tl_append, List.mem_append] at hz
          rcases hz with hz | hz
          · exact xa z hz
          · rw [List.mem_singleton.mp (show z ∈ [c'] from hz)]
            exact mc
      · rintro ρ' η' ⟨e, x, v, le, xl, xa, rfl, rfl⟩
        rw [ints_len] at xl
        refine svs_cons (sv_ret (ev_var (d := .str x) 2 rfl (lose_sub (List.sublist_append_left _ _) ⟨x, e, rfl, name_of (by omega) (by omega) xa, (lb.trans lc).trans le, rfl⟩)))
end
end K85
end Sx

namespace Sx
namespace K85
open PySem PySem.Spec PyProof.Rows L2 TL
open LamX (Tabs TabS TabB ExtN)
theorem pig {α : Type} [DecidableEq α] : ∀ {xs ys : List α}, xs.Nodup → (∀ x ∈ xs, x ∈ ys) → xs.length ≤ ys.length
  | [], _, _, _ => Nat.zero_le _
  | x :: xs, ys, nd, h => by
    rw [List.nodup_cons] at nd
    have hx := h x List.mem_cons_self
    have ih := pig (xs := xs) (ys := ys.erase x) nd.2 fun z hz => (List.mem_erase_of_ne (fun e => nd.1 (by rw [← e]; exact hz))).mpr (h z (List.mem_cons_of_mem _ hz))
    rw [List.length_erase_of_mem hx] at ih
    have : 0 < ys.length := List.length_pos_of_mem hx
    rw [List.length_cons]
    omega
def let_ (i : Nat) : Nat := letters.cps.toList.getD i 0
def cand (j : Nat) : Str := (("x" : Str) ++ ⟨#[let_ (j % 26)]⟩) ++ ⟨#[let_ (j / 26 % 26)]⟩
theorem cand_nd : ((List.range 60).map cand).Nodup := by decide +kernel
theorem cand_name : ((List.range 60).map cand).all isName = true := by decide +kernel
theorem cand_pre {n : Nat} (h : n ≤ 60) : ((List.range n).map cand).Nodup := by
  have : List.range n = (List.range 60).take n := by rw [List.take_range, Nat.min_eq_left h]
  rw [this, List.map_take]
  exact cand_nd.sublist (List.take_sublist _ _)
theorem let_at {i : Nat} (h : i < 26) : atI letters.cps.toList (i : Int) = some (let_ i) := by
  refine atI_pos ?_
  have hl : letters.cps.toList.length = 26 := by decide
  unfold let_
  rw [List.getD_eq_getElem?_getD, List.getElem?_eq_getElem (by omega)]
  rfl
theorem fmod_nat (a b : Nat) : ((a : Int).fmod (b : Int)) = ((a % b : Nat) : Int) := by
  rw [Int.fmod_eq_emod_of_nonneg _ (Int.natCast_nonneg b)]
  rfl
theorem fdiv_nat (a b : Nat) : ((a : Int).fdiv (b : Int)) = ((a / b : Nat) : Int) := by
  rw [Int.fdiv_eq_ediv_of_nonneg _ (Int.natCast_nonneg b)]
  rfl
section
variable {P : Program} {w : World} {K : PySem.W.Frag} {mg : Str → Option Value} {base : Heap} {MC : Addr → Prop} {T : List (Addr × Str)} {f C CW : Addr} {fd : FuncData}
structure NamA where
  a : PenA
  n : Nat
  s : Addr
  zs : List Str
def NamA.st (x : NamA) : Sto := x.a.st ++ [(x.s, .lst (x.zs.map D.str))]
def F_lnames : FS {x : NamA // x.a.ok ∧ x.n ≤ 20 ∧ x.zs.length ≤ 20} := { args := fun x => [.ref x.1.a.p, .int (x.1.n : Nat), .ref x.1.s], st := fun x => x.1.st, ret := fun x d η => ∃ (q : Addr) (ns : List Str) (b : PenA), d = .ref q ∧ ns.length = x.1.n ∧ ns.Nodup ∧ (∀ z ∈ ns, isName z = true ∧ z ∉ x.1.zs) ∧ x.1.a.later b ∧ η = b.st ++ [(q, .lst (ns.map D.str)), (x.1.s, .lst (x.1.zs.map D.str))] }
theorem k_lnames (F : Fun K "_law_names" "_law_names" s_law_names f fd) (G : Cal P w K mg base 2 "_law_name" ["pen"] (spOf ⟨K, MC, T⟩ F_lname)) (h1 : mg "int" = none) (h2 : mg "range" = none) : FnOk P w K mg base CX0 3 f fd ["pen", "many", "some"] (spOf ⟨K, MC, T⟩ F_lnames) :=
  ok_of _ F c_law_names (fun _ => rfl) fun a cdv A outer s H E hr => by
    obtain ⟨⟨a, n, sm, zs⟩, ok, nl, zl⟩ := a
    have ok : a.ok := ok
    have nl : n ≤ 20 := nl
    have zl : zs.length ≤ 20 := zl
    show SVs _ _ [some (.ref a.p), some (.int (n : Nat)), some (.ref sm), none, none, none, none, none] (a.st ++ [(sm, .lst (zs.map D.str))]) _
    refine svs_cons (sv_as 3 (ev_str ?_) c_law_names.nd)
    refine svs_cons (sv_as 4 (ev_lst (av_nil ⟨Nat.zero_le _, fun q => ?_⟩)) c_law_names.nd)
    show SVs _ _ [some (.ref a.p), some (.int (n : Nat)), some (.ref sm), some (.str letters), some (.ref q), none, none, none] _ _
    refine SVs.perm List.perm_middle ?_
    refine svs_cons (sv_forI (.nm 5) PassesOwn.never rfl (pg_name c_law_names.nd rfl (Or.inl rfl)) (iv_rng1 h2 (av_cons (ev_var (d := .int (n : Nat)) 1 rfl (av_nil ⟨n, rfl, by omega, by omega, ?_⟩)))))
    refine ⟨fun i ρ' η' => ∃ (ns : List Str) (b : PenA) (v5 v6 v7 : Option D), ns.length = i ∧ ns.Nodup ∧ (∀ z ∈ ns, isName z = true ∧ z ∉ zs) ∧ a.later b ∧ ρ' = [some (.ref b.p), some (.int (n : Nat)), some (.ref sm), some (.str letters), some (.ref q), v5, v6, v7] ∧ η' = b.st ++ [(q, .lst (ns.map D.str)), (sm, .lst (zs.map D.str))],
      fun _ _ _ _ => trivial, ⟨[], a, none, none, none, rfl, List.nodup_nil, fun z hz => absurd hz List.not_mem_nil, PenA.later.refl ok, rfl, rfl⟩, ?_, ?_⟩
    · rintro i d ρ' η' ed ⟨ns, b, v5, v6, v7, il, nd, nz, lb, rfl, rfl⟩
      obtain ⟨ii, rfl⟩ := ints_get ed
      have ii : i < n := by omega
      refine ⟨trivial, svs_cons (sv_as 6 (ev_cal G hr (av_cons (ev_var (d := .ref b.p) 0 rfl (av_nil ⟨⟨b, lb.1⟩, [(q, .lst (ns.map D.str)), (sm, .lst (zs.map D.str))], rfl, List.Perm.refl _, ?_, fun _ _ _ _ z => z.elim⟩)))) c_law_names.nd)⟩
      rintro d η' ⟨x, c, rfl, nx, lc, rfl⟩
      have lc : b.later c := lc
      rw [show b.p = c.p from lc.2.1.symm]
      refine svs_cons (sv_as 7 (ev_int ?_) c_law_names.nd)
      show SVs _ _ [some (.ref c.p), some (.int (n : Nat)), some (.ref sm), some (.str letters), some (.ref q), some (.int (0 + (i : Nat))), some (.str x), some (.int 0)] (c.st ++ [(q, .lst (ns.map D.str)), (sm, .lst (zs.map D.str))]) _
      refine svs_cut (fun ρ η => ∃ (x : Str) (v7 : Option D), isName x = true ∧ x ∉ ns ∧ x ∉ zs ∧ ρ = [some (.ref c.p), some (.int (n : Nat)), some (.ref sm), some (.str letters), some (.ref q), some (.int (0 + (i : Nat))), some (.str x), v7] ∧ η = c.st ++ [(q, .lst (ns.map D.str)), (sm, .lst (zs.map D.str))]) ?_ ?_
      · refine sv_while PassesOwn.never (fun m ρ η => ∃ (x : Str) (t : Nat), isName x = true ∧ (∀ j, j + 1 < t → cand j ∈ ns ++ zs) ∧ (1 ≤ t → x = cand (t - 1)) ∧ t ≤ ns.length + zs.length + 1 ∧ m = ns.length + zs.length + 2 - t ∧ ρ = [some (.ref c.p), some (.int (n : Nat)), some (.ref sm), some (.str letters), some (.ref q), some (.int (0 + (i : Nat))), some (.str x), some (.int (t : Nat))] ∧ η = c.st ++ [(q, .lst (ns.map D.str)), (sm, .lst (zs.map D.str))])
          (ns.length + zs.length + 2) ⟨x, 0, nx, fun j hj => by omega, fun h => by omega, by omega, rfl, rfl, rfl⟩ ?_
        rintro m ρ' η' ⟨x, t, nx, hj, ht, tl_, rfl, rfl, rfl⟩
        refine TV.mono (QB := fun b η => η = c.st ++ [(q, .lst (ns.map D.str)), (sm, .lst (zs.map D.str))] ∧ b = (inS? (some x) ns || inS? (some x) zs)) ?_ ?_
        · refine tv_w (tv_orC (tv_cmp rfl (ev_var (d := .str x) 6 rfl (ev_var (d := .ref q) 4 rfl (opw_inLS (o := some x) (zs := ns) (List.mem_append_right _ List.mem_cons_self) ⟨_, rfl, fun e1 => ?_, fun e1 => ⟨rfl, by rw [e1]; rfl⟩⟩)))))
          exact wv_or1 (tv_cmp rfl (ev_var (d := .str x) 6 rfl (ev_var (d := .ref sm) 2 rfl (opw_inLS (o := some x) (zs := zs) (List.mem_append_right _ (List.mem_cons_of_mem _ List.mem_cons_self)) ⟨_, rfl, rfl, by rw [e1]; rfl⟩))))
        rintro b2 η2 ⟨rfl, rfl⟩
        refine ⟨fun mx => ?_, fun mx => ?_⟩
        · have mx : x ∈ ns ++ zs := by
            rw [Bool.or_eq_true] at mx
            exact List.mem_append.mpr (mx.imp of_decide_eq_true of_decide_eq_true)
          have all : ∀ j, j < t → cand j ∈ ns ++ zs := fun j jt => by
            by_cases e : j + 1 < t
            · exact hj j e
            · have : j = t - 1 := by omega
              rw [this, ← ht (by omega)]
              exact mx
          have t1 : t ≤ ns.length + zs.length := by
            have := pig (xs := (List.range t).map cand) (ys := ns ++ zs) (cand_pre (by omega)) fun z hz => by
              obtain ⟨j, hj, rfl⟩ := List.mem_map.mp hz
              exact all j (List.mem_range.mp hj)
            rwa [List.length_map, List.length_range, List.length_append] at this
          refine svs_cons (sv_as 6 (hN := c_law_names.nd) (ev_bin (ev_bin (ev_str (ev_ix (fun _ _ => rfl) (ev_var (d := .str letters) 3 rfl (ev_bin (ev_callT h1 PySem.Pv.boot_int (av_cons (ev_var (d := .int (t : Nat)) 7 rfl (av_nil (cw_int (ev_int (opw_mod (by decide) ?_))))))))))))))
          rw [show ((t : Int).fmod 26) = ((t % 26 : Nat) : Int) from fmod_nat t 26]
          refine xw_str (by rw [sizeLine_eq]; decide) (let_at (Nat.mod_lt _ (by decide))) (opw_addS (by rw [sizeLine_eq]; show 1 + 1 ≤ 16777216; decide) ?_)
          refine ev_ix (fun _ _ => rfl) (ev_var (d := .str letters) 3 rfl (ev_bin (ev_bin (ev_callT h1 PySem.Pv.boot_int (av_cons (ev_var (d := .int (t : Nat)) 7 rfl (av_nil (cw_int (ev_int (opw_fdiv ⟨by decide, by decide⟩ (ev_int (opw_mod (by decide) ?_))))))))))))
          rw [show ((t : Int).fdiv 26) = ((t / 26 : Nat) : Int) from fdiv_nat t 26, show (((t / 26 : Nat) : Int).fmod 26) = ((t / 26 % 26 : Nat) : Int) from fmod_nat _ 26]
          refine xw_str (by rw [sizeLine_eq]; decide) (let_at (Nat.mod_lt _ (by decide))) (opw_addS (by rw [sizeLine_eq]; show 2 + 1 ≤ 16777216; decide) ?_)
          refine svs_cons (sv_as 7 (ev_bin (ev_var (d := .int (t : Nat)) 7 rfl (ev_int (opw_add ?_)))) c_law_names.nd)
          refine svs_nil ⟨ns.length + zs.length + 2 - (t + 1), by omega, cand t, t + 1, ?_, fun j hj => all j (by omega), fun _ => rfl, by omega, rfl, rfl, rfl⟩
          exact List.all_eq_true.mp cand_name _ (List.mem_map.mpr ⟨t, List.mem_range.mpr (by omega), rfl⟩)
        · rw [Bool.or_eq_false_iff] at mx
          exact ⟨x, _, nx, of_decide_eq_false mx.1, of_decide_eq_false mx.2, rfl, rfl⟩
      · rintro ρ' η' ⟨x, v7, nx, n1, n2, rfl, rfl⟩
        refine SVs.nd fun nd' => svs_cons (sv_ex (ev_append (ev_var (d := .ref q) 4 rfl ⟨.inl ⟨rfl, _, List.mem_append_right _ List.mem_cons_self⟩, av_cons (ev_var (d := .str x) 6 rfl (av_nil (mw_append (List.mem_append_right _ List.mem_cons_self) (by rw [sizeLine_eq, List.length_map]; omega) ?_)))⟩)))
        rw [putM_in nd']
        refine svs_nil ⟨ns ++ [x], c, _, _, _, by rw [List.length_append, il]; rfl, ?_, ?_, lb.trans lc, rfl, by rw [List.map_append]; rfl⟩
        · rw [List.nodup_append]
          exact ⟨nd, by simp, fun a ha b hb => by rw [List.mem_singleton.mp hb]; exact fun e => n1 (e ▸ ha)⟩
        · intro z hz
          rcases List.mem_append.mp hz with hz | hz
          · exact nz z hz
          · rw [List.mem_singleton.mp hz]
            exact ⟨nx, n2⟩
    · rintro ρ' η' ⟨ns, b, v5, v6, v7, il, nd, nz, lb, rfl, rfl⟩
      rw [ints_len] at il
      exact svs_cons (sv_ret (ev_var (d := .ref q) 4 rfl (lose_id ⟨q, ns, b, rfl, by simpa using il, nd, nz, lb, rfl⟩)))
end
end K85
end Sx

namespace Sx
namespace K85
open PySem PySem.Spec PyProof.Rows L2 TL
open LamX (Tabs TabS TabB ExtN)
/-- a tree over some columns -/
def Tr.lw (ns : List Str) : Tr → Prop
  | .miss c => c ∈ ns
  | .wi c ps => c ∈ ns ∧ Canon ps
  | .nt t => t.lw ns
  | .bin _ t u => t.lw ns ∧ u.lw ns
  | _ => True
def okN (ns : List Str) : Prop := ns.length ≤ 20 ∧ ∀ x ∈ ns, isName x = true
theorem Tr.lw.good {ns : List Str} (h : okN ns) : ∀ {t : Tr}, t.lw ns → t.good
  | .always, _ => trivial
  | .never, _ => trivial
  | .miss c, z => h.2 c z
  | .wi c ps, z => ⟨h.2 c z.1, z.2.good⟩
  | .nt t, z => Tr.lw.good (t := t) h z
  | .bin a t u, z => ⟨Tr.lw.good (t := t) h z.1, Tr.lw.good (t := u) h z.2⟩
theorem Tr.lw.small {ns : List Str} : ∀ {t : Tr}, t.lw ns → t.small
  | .always, _ => trivial
  | .never, _ => trivial
  | .miss c, z => trivial
  | .wi c ps, z => by have := z.2.len; show ps.length ≤ 1000; omega
  | .nt t, z => Tr.lw.small (t := t) z
  | .bin a t u, z => ⟨Tr.lw.small (t := t) z.1, Tr.lw.small (t := u) z.2⟩
theorem Tr.lw.cols {ns : List Str} : ∀ {t : Tr}, t.lw ns → ∀ c ∈ t.cols, c ∈ ns
  | .always, _, c, hc => absurd hc List.not_mem_nil
  | .never, _, c, hc => absurd hc List.not_mem_nil
  | .miss c, z, d, hd => by rw [List.mem_singleton.mp hd]; exact z
  | .wi c ps, z, d, hd => by rw [List.mem_singleton.mp hd]; exact z.1
  | .nt t, z, d, hd => Tr.lw.cols (t := t) z d hd
  | .bin a t u, z, d, hd => (List.mem_append.mp hd).elim (Tr.lw.cols (t := t) z.1 d) (Tr.lw.cols (t := u) z.2 d)
theorem leaf_sz {t : Tr} (h : t.isLeaf = true) : t.size = 1 ∧ t.dep = 0 := by cases t <;> first | exact ⟨rfl, rfl⟩ | cases h
theorem lay_names {ns : List Str} (h : okN ns) : PyData.canLayAll0 (ns.map PyData.str) = true := strsP_lay ns fun x hx => name_low (h.2 x hx)
section
variable {P : Program} {w : World} {K : PySem.W.Frag} {mg : Str → Option Value} {base : Heap} {MC : Addr → Prop} {T : List (Addr × Str)} {f C CW : Addr} {fd : FuncData}
structure ColA where
  a : PenA
  c : Addr
  ns : List Str
def ColA.st (x : ColA) : Sto := x.a.st ++ [(x.c, .lst (x.ns.map D.str))]
def F_leaf : FS {x : ColA // x.a.ok ∧ okN x.ns} := { args := fun x => [.ref x.1.a.p, .ref x.1.c], st := fun x => x.1.st, ret := fun x d η => ∃ (t : Tr) (b : PenA), d = t.d ∧ t.isLeaf = true ∧ t.lw x.1.ns ∧ x.1.a.later b ∧ η = b.st ++ [(x.1.c, .lst (x.1.ns.map D.str))] }
theorem k_leaf (F : Fun K "_law_leaf" "_law_leaf" s_law_leaf f fd) (G : Cal P w K mg base 1 "_law_draw" ["pen", "many"] (spOf ⟨K, MC, T⟩ F_draw)) (GP : Cal P w K mg base 3 "_law_parts" ["pen", "most"] (spOf ⟨K, MC, T⟩ F_lparts)) (h1 : mg "len" = none) : FnOk P w K mg base CX0 4 f fd ["pen", "columns"] (spOf ⟨K, MC, T⟩ F_leaf) :=
  ok_of _ F c_law_leaf (fun _ => rfl) fun a cdv A outer s H E hr => by
    obtain ⟨⟨a, c, ns⟩, ok, on⟩ := a
    have ok : a.ok := ok
    have on : okN ns := on
    have hu := un200 hr
    have h1r : Room 1 (A.deeper (envOfC "_law_leaf" (defScope s_law_leaf) s.heap.objs.size f cdv)) := hr.mono (by decide)
    have nl := on.1
    show SVs _ _ [some (.ref a.p), some (.ref c), none, none] (a.st ++ [(c, .lst (ns.map D.str))]) _
    refine svs_cons (sv_as 2 (ev_draw 8 0 G h1r rfl ok (by decide) (by decide) (ev_int ⟨rfl, rfl⟩) fun v b v0 v1 lb => ?_) c_law_leaf.nd)
    rw [show a.p = b.p from lb.2.1.symm]
    have early : Lose ((F_leaf).ret ⟨⟨a, c, ns⟩, ok, on⟩ (D.tup [.str "always"])) (b.st ++ [(c, .lst (ns.map D.str))]) ∧ Lose ((F_leaf).ret ⟨⟨a, c, ns⟩, ok, on⟩ (D.tup [.str "never"])) (b.st ++ [(c, .lst (ns.map D.str))]) :=
      ⟨lose_id ⟨.always, b, rfl, rfl, trivial, lb, rfl⟩, lose_id ⟨.never, b, rfl, rfl, trivial, lb, rfl⟩⟩
    refine svs_cons (sv_ifC (TV.mono (QB := fun k η => (∃ η0, η = η0 ++ (b.st ++ [(c, .lst (ns.map D.str))])) ∧ (k = false → ns ≠ [])) ?_ ?_))
    · refine tv_w (tv_orC (tv_cmp (nomark _) (ev_var (d := .ref c) 1 rfl (ev_lst (av_nil ⟨Nat.zero_le _, fun r => opw_eqNil hu (List.mem_cons_of_mem _ (List.mem_append_right _ List.mem_cons_self)) List.mem_cons_self (pd_map PdAt.str ns) (lay_names on) ⟨_, rfl, fun e => ?_, fun e => ?_⟩⟩)))))
      · refine WV.drop (List.sublist_cons_self _ _) (wv_or1 (tv_cmp (nomark _) (ev_var (d := .int v) 2 rfl (ev_int (opw_lt ⟨_, rfl, ⟨[], rfl⟩, fun _ z => by rw [z] at e; cases e⟩)))))
      · exact ⟨⟨[(r, .lst [])], rfl⟩, fun z => nomatch z⟩
    · rintro k η ⟨⟨η0, rfl⟩, hk⟩
      refine ⟨fun _ => SVs.drop (List.sublist_append_right η0 _) ?_, fun z => SVs.drop (List.sublist_append_right η0 _) (svs_nil ?_)⟩
      · refine svs_cons (sv_ret (ev_ifC (tv_cmp (nomark _) (ev_var (d := .int v) 2 rfl (ev_int (opw_eqI ⟨_, rfl, fun _ => ev_lit (.tup [.str "always"]) early.1, fun _ => ev_lit (.tup [.str "never"]) early.2⟩))))))
      · have hne := hk z
        have pos : 0 < ns.length := List.length_pos_iff.mpr hne
        refine svs_cons (sv_as 3 (hN := c_law_leaf.nd) (ev_ix (fun _ _ => rfl) (ev_var (d := .ref c) 1 rfl (ev_draw (a := b) (ns.length : Nat) 0 G h1r rfl lb.1 (by omega) (by omega) (ev_callB h1 boot_len (av_cons (ev_var (d := .ref c) 1 rfl (av_nil (cw_lenL (List.mem_append_right _ List.mem_cons_self) ⟨by rw [List.length_map], rfl⟩))))) fun u e u0 u1 le => ?_))))
        obtain ⟨x, mx, ex, _⟩ := atI_in (xs := ns) u0 u1
        obtain ⟨n, rfl⟩ : ∃ n : Nat, u = n := ⟨u.toNat, (Int.toNat_of_nonneg u0).symm⟩
        refine xw_list (List.mem_append_right _ List.mem_cons_self) (d := .str x) (atI_pos (by rw [List.getElem?_map, show ns[n]? = some x from ex]; rfl)) ?_
        rw [show b.p = e.p from le.2.1.symm]
        show SVs _ _ [some (.ref e.p), some (.ref c), some (.int v), some (.str x)] _ _
        refine svs_cons (sv_ifC (tv_cmp (nomark _) (ev_var (d := .int v) 2 rfl (ev_int (opw_eqI ⟨_, rfl, fun _ => ?_, fun _ => svs_nil ?_⟩)))))
        · exact svs_cons (sv_ret (ev_tup (av_cons (ev_str (av_cons (ev_var (d := .str x) 3 rfl (av_nil ⟨by rw [sizeLine_eq]; show 2 ≤ 16777216; decide, lose_id ⟨.miss x, e, rfl, rfl, mx, lb.trans le, rfl⟩⟩)))))))
        · refine svs_cons (sv_ret (ev_tup (av_cons (ev_str (av_cons (ev_var (d := .str x) 3 rfl (av_cons (ev_cal GP hr (av_cons (ev_var (d := .ref e.p) 0 rfl (av_cons (ev_ix (fun _ _ => rfl) (ev_litL (([1, 1, 2, 4] : List Int).map D.int) fun q2 => EV.perm List.perm_middle (ev_draw (a := e) 4 0 G h1r rfl le.1 (by decide) (by decide) (ev_int ⟨rfl, rfl⟩) fun t g t0 t1 lg => ?_))))))))))))))
          obtain ⟨m, mm, em, _⟩ := atI_in (xs := ([1, 1, 2, 4] : List Int)) t0 t1
          obtain ⟨k, rfl⟩ : ∃ k : Nat, t = k := ⟨t.toNat, (Int.toNat_of_nonneg t0).symm⟩
          have nn : 0 ≤ m ∧ m ≤ 6 := by
            have : ([1, 1, 2, 4] : List Int).all (fun n => decide (0 ≤ n ∧ n ≤ 6)) = true := by decide
            exact of_decide_eq_true (List.all_eq_true.mp this m mm)
          refine xw_list (List.mem_append_right _ List.mem_cons_self) (d := .int m) (atI_pos (by rw [List.getElem?_map, show ([1, 1, 2, 4] : List Int)[k]? = some m from em]; rfl)) ?_
          refine av_nil ⟨⟨(g, m), lg.1, nn.1, nn.2⟩, [(q2, .lst (([1, 1, 2, 4] : List Int).map D.int)), (c, .lst (ns.map D.str))], congrArg (fun p => [D.ref p, D.int m]) lg.2.1.symm, List.Perm.refl _, ?_, fun _ _ _ _ z => z.elim⟩
          rintro d η' ⟨ps, g2, rfl, cn, lg2, rfl⟩
          have lg2 : g.later g2 := lg2
          exact av_nil ⟨by rw [sizeLine_eq]; show 3 ≤ 16777216; decide, lose_sub (List.Sublist.append (List.Sublist.refl _) (List.sublist_cons_self _ _)) ⟨.wi x ps, g2, rfl, rfl, ⟨mx, cn⟩, ((lb.trans le).trans lg).trans lg2, rfl⟩⟩
end
end K85
end Sx

namespace Sx
namespace K85
open PySem PySem.Spec PyProof.Rows L2 TL
open LamX (Tabs TabS TabB ExtN)
theorem szOf_cons (t : Tr) (ts : List Tr) : szOf (t :: ts) = t.size + szOf ts := by simp [szOf]
theorem szOf_app (ts us : List Tr) : szOf (ts ++ us) = szOf ts + szOf us := by simp [szOf]
theorem szOf_leaves {ts : List Tr} (h : ∀ t ∈ ts, t.isLeaf = true) : szOf ts = ts.length := by
  induction ts with
  | nil => rfl
  | cons t ts ih =>
    rw [szOf_cons, (leaf_sz (h t List.mem_cons_self)).1, ih fun u hu => h u (List.mem_cons_of_mem _ hu), List.length_cons]
    omega
section
variable {P : Program} {w : World} {K : PySem.W.Frag} {mg : Str → Option Value} {base : Heap} {MC : Addr → Prop} {T : List (Addr × Str)} {f C CW : Addr} {fd : FuncData}
def F_ltree : FS {x : ColA × Nat // x.1.a.ok ∧ okN x.1.ns ∧ 1 ≤ x.2 ∧ x.2 ≤ 12} := { args := fun x => [.ref x.1.1.a.p, .ref x.1.1.c, .int (x.1.2 : Nat)], st := fun x => x.1.1.st, ret := fun x d η => ∃ (t : Tr) (b : PenA), d = t.d ∧ t.lw x.1.1.ns ∧ t.size ≤ 30 ∧ x.1.1.a.later b ∧ η = b.st ++ [(x.1.1.c, .lst (x.1.1.ns.map D.str))] }
theorem k_ltree (F : Fun K "_law_tree" "_law_tree" s_law_tree f fd) (G : Cal P w K mg base 1 "_law_draw" ["pen", "many"] (spOf ⟨K, MC, T⟩ F_draw)) (GL : Cal P w K mg base 4 "_law_leaf" ["pen", "columns"] (spOf ⟨K, MC, T⟩ F_leaf)) (h1 : mg "len" = none) (h2 : mg "range" = none) (h3 : mg "int" = none) : FnOk P w K mg base CX0 5 f fd ["pen", "columns", "many"] (spOf ⟨K, MC, T⟩ F_ltree) :=
  ok_of _ F c_law_tree (fun _ => rfl) fun a cdv A outer s H E hr => by
    obtain ⟨⟨⟨a, c, ns⟩, n⟩, ok, on, n1, n2⟩ := a
    have ok : a.ok := ok
    have on : okN ns := on
    have n1 : 1 ≤ n := n1
    have n2 : n ≤ 12 := n2
    have h1r : Room 1 (A.deeper (envOfC "_law_tree" (defScope s_law_tree) s.heap.objs.size f cdv)) := hr.mono (by decide)
    show SVs _ _ [some (.ref a.p), some (.ref c), some (.int (n : Nat)), none, none, none, none, none] (a.st ++ [(c, .lst (ns.map D.str))]) _
    refine svs_cons (sv_setLc (own := [("k", 7)]) 3 (.nm 7) rfl c_law_tree.nd rfl rfl (sw_true rfl rfl rfl (by decide +kernel)) (blkOk_by (N := n_law_tree) (sc := defScope s_law_tree) (by decide +kernel)) (fun _ _ _ _ _ => pg_name c_law_tree.nd rfl (Or.inl rfl) (Or.inr rfl)) (by decide) ?_)
    refine iv_rng1 h2 (av_cons (ev_var (d := .int (n : Nat)) 2 rfl (av_nil ⟨n, rfl, by omega, by omega, ?_⟩)))
    refine ⟨fun i acc η => ∃ (ts : List Tr) (b : PenA), acc = ts.map Tr.d ∧ ts.length = i ∧ i ≤ n ∧ (∀ t ∈ ts, t.isLeaf = true ∧ t.lw ns) ∧ a.later b ∧ η = b.st ++ [(c, .lst (ns.map D.str))], ?_, ⟨[], a, rfl, rfl, Nat.zero_le _, fun u hu => absurd hu List.not_mem_nil, PenA.later.refl ok, rfl⟩, ?_, ?_⟩
    · rintro i acc η ⟨ts, b, rfl, rfl, hi, _⟩
      refine ⟨trivial, ?_⟩
      rw [List.length_map, sizeLine_eq]
      omega
    · rintro i d acc η e ⟨ts, b, rfl, rfl, hi, ht, lb, rfl⟩
      obtain ⟨hlt, rfl⟩ := ints_get e
      refine ⟨trivial, fun s' H' Cc cl fp => ?_⟩
      refine ev_cal GL hr (av_cons (ev_var (d := .ref a.p) 0 rfl (av_cons (ev_var (d := .ref c) 1 rfl (av_nil ⟨⟨⟨b, c, ns⟩, lb.1, on⟩, [], congrArg (fun p => [D.ref p, D.ref c]) lb.2.1.symm, by rw [List.append_nil]; exact List.Perm.refl _, ?_, fun _ _ _ _ z => z.elim⟩)))))
      rintro d η ⟨t, b2, rfl, lf, lw, lb2, rfl⟩
      refine ⟨ts ++ [t], b2, by rw [List.map_append]; rfl, by rw [List.length_append]; rfl, by omega, fun x hx => ?_, lb.trans lb2, List.append_nil _⟩
      rcases List.mem_append.mp hx with hx | hx
      · exact ht x hx
      · rw [List.mem_singleton.mp hx]
        exact ⟨lf, lw⟩
    · rintro acc η L ⟨ts, b, rfl, hlen, _, ht, lb, rfl⟩
      rw [ints_len] at hlen
      have hlen : ts.length = n := by simpa using hlen
      refine svs_cons (sv_as 4 (ev_int ?_) c_law_tree.nd)
      show SVs _ _ [some (.ref a.p), some (.ref c), some (.int (n : Nat)), some (.ref L), some (.int ((6 : Nat) : Int)), none, none, none] _ _
      refine SVs.perm (η := b.st ++ [(L, .lst (ts.map Tr.d)), (c, .lst (ns.map D.str))]) List.perm_middle ?_
      refine svs_cons (sv_while PassesOwn.never (fun m ρ η => ∃ (ts : List Tr) (b : PenA) (r : Addr) (k : Nat) (v5 v6 : Option D), ρ = [some (.ref a.p), some (.ref c), some (.int (n : Nat)), some (.ref r), some (.int (k : Int)), v5, v6, none] ∧ η = b.st ++ [(r, .lst (ts.map Tr.d)), (c, .lst (ns.map D.str))] ∧
          ts ≠ [] ∧ (∀ t ∈ ts, t.lw ns) ∧ szOf ts + k + ts.length ≤ 2 * n + 6 ∧ a.later b ∧ m = ts.length + k) (ts.length + 6) ⟨ts, b, L, 6, none, none, rfl, rfl, (fun e => by rw [e] at hlen; simp at hlen; omega), fun t z => (ht t z).2, by rw [szOf_leaves fun t z => (ht t z).1]; omega, lb, rfl⟩ ?_)
      clear ht hlen lb
      rintro m ρ' η' ⟨ts, b, r, k, v5, v6, rfl, rfl, hne, ht, hs, lb, rfl⟩
      have tl : ts.length ≤ 30 := by omega
      have pos : 0 < ts.length := List.length_pos_iff.mpr hne
      have lenE : ∀ {b : PenA} {v5 v6 : Option D} {Q : D → Sto → Prop} {p1 p2 p3 : Pos}, Q (.int (ts.length : Nat)) (b.st ++ [(r, .lst (ts.map Tr.d)), (c, .lst (ns.map D.str))]) → EV (yBody P w K mg base MC T n_law_tree "_law_tree" (defScope s_law_tree) f cdv A outer s H E) (.Call (.Name "len" p1) [.Name "trees" p2] [] p3) [some (.ref a.p), some (.ref c), some (.int (n : Nat)), some (.ref r), some (.int (k : Int)), v5, v6, none] (b.st ++ [(r, .lst (ts.map Tr.d)), (c, .lst (ns.map D.str))]) Q := fun h =>
        ev_callB h1 boot_len (av_cons (ev_var (d := .ref r) 3 rfl (av_nil (cw_lenL (List.mem_append_right _ List.mem_cons_self) (by rw [List.length_map]; exact h)))))
      refine TV.mono (QB := fun q η => ∃ b' : PenA, a.later b' ∧ η = b'.st ++ [(r, .lst (ts.map Tr.d)), (c, .lst (ns.map D.str))] ∧ (q = true → 1 < ts.length ∨ 0 < k) ∧ (q = false → ts.length = 1)) ?_ ?_
      · refine tv_w (tv_orC (tv_cmp (nomark _) (lenE (ev_int (opw_gt ⟨_, rfl, fun e1 => ?_, fun e1 => ⟨b, lb, rfl, fun _ => .inl (by have := of_decide_eq_true e1; omega), fun z => nomatch z⟩⟩)))))
        have e1 := of_decide_eq_false e1
        have l1 : ts.length = 1 := by omega
        refine wv_or1 (tv_w (tv_andC (tv_cmp (nomark _) (ev_var (d := .int (k : Int)) 4 rfl (ev_int (opw_gt ⟨_, rfl, fun e2 => ?_, fun e2 => ⟨b, lb, rfl, (fun z => nomatch z), fun _ => l1⟩⟩))))))
        have e2 := of_decide_eq_true e2
        exact wv_and1 (tv_cmp (nomark _) (ev_draw (a := b) 5 0 G h1r (by rw [lb.2.1]; rfl) lb.1 (by decide) (by decide) (ev_int ⟨rfl, rfl⟩) fun v b' v0 v1 lb' => ev_int (opw_eqI ⟨_, rfl, b', lb.trans lb', rfl, fun _ => .inr (by omega), fun _ => l1⟩)))
      · rintro q η ⟨b', lb', rfl, hq1, hq2⟩
        clear lb
        refine ⟨fun qt => ?_, fun qf => ?_⟩
        · have hq := hq1 qt
          refine svs_cons (sv_as 5 (ev_draw (a := b') (ts.length : Nat) 0 G h1r (by rw [lb'.2.1]; rfl) lb'.1 (by omega) (by omega) (lenE ⟨rfl, rfl⟩) fun at_ b2 v0 v1 lb2 => ?_) c_law_tree.nd)
          obtain ⟨i, rfl⟩ : ∃ i : Nat, at_ = i := ⟨at_.toNat, (Int.toNat_of_nonneg v0).symm⟩
          have lb2 := lb'.trans lb2
          show SVs _ _ [some (.ref a.p), some (.ref c), some (.int (n : Nat)), some (.ref r), some (.int (k : Int)), some (.int (i : Int)), v6, none] _ _
          refine svs_cons (sv_ifC (TV.mono (QB := fun q η => ∃ b' : PenA, a.later b' ∧ η = b'.st ++ [(r, .lst (ts.map Tr.d)), (c, .lst (ns.map D.str))] ∧ (q = true → 0 < k) ∧ (q = false → 1 < ts.length)) ?_ ?_))
          · refine tv_w (tv_orC (tv_cmp (nomark _) (lenE (ev_int (opw_eqI ⟨_, rfl, fun e1 => ?_, fun e1 => ⟨b2, lb2, rfl, fun _ => hq.resolve_left (by have := of_decide_eq_true e1; omega), fun z => nomatch z⟩⟩)))))
            have e1 := of_decide_eq_false e1
            have l1 : 1 < ts.length := by omega
            refine wv_or1 (tv_w (tv_andC (tv_cmp (nomark _) (ev_var (d := .int (k : Int)) 4 rfl (ev_int (opw_gt ⟨_, rfl, fun e2 => ?_, fun e2 => ⟨b2, lb2, rfl, (fun z => nomatch z), fun _ => l1⟩⟩))))))
            have e2 := of_decide_eq_true e2
            exact wv_and1 (tv_cmp (nomark _) (ev_draw (a := b2) 4 0 G h1r (by rw [lb2.2.1]; rfl) lb2.1 (by decide) (by decide) (ev_int ⟨rfl, rfl⟩) fun v b' v0 v1 lb' => ev_int (opw_eqI ⟨_, rfl, b', lb2.trans lb', rfl, fun _ => by omega, fun _ => l1⟩)))
          · clear lb2
            rintro q2 η ⟨b3, lb3, rfl, hk1, hk2⟩
            refine ⟨fun z => ?_, fun z => ?_⟩
            · have kp := hk1 z
              obtain ⟨pre, t, post, rfl, hp⟩ := split1 (xs := ts) (n := i) (by omega)
              have m3 : ∀ {x : Mo}, (r, x) ∈ b3.st ++ [(r, x), (c, .lst (ns.map D.str))] := List.mem_append_right _ List.mem_cons_self
              have mp : (pre ++ t :: post).map Tr.d = pre.map Tr.d ++ t.d :: post.map Tr.d := by rw [List.map_append, List.map_cons]
              refine SVs.nd fun nd => svs_cons (sv_setItem (ev_tup (av_cons (ev_str (av_cons (ev_ix (fun _ _ => rfl) (ev_var (d := .ref r) 3 rfl (ev_var (d := .int (i : Int)) 5 rfl (xw_list m3 (by rw [mp]; exact atI_mid (by rw [List.length_map]; exact hp)) (av_nil ⟨by rw [sizeLine_eq]; show 2 ≤ 16777216; decide, ev_var (d := .ref r) 3 rfl (ev_var (d := .int (i : Int)) 5 rfl (sw_list (k := i) m3 ?_ ?_))⟩))))))))))
              · exact ixN_nat (by rw [List.length_map, List.length_append, List.length_cons]; omega)
              rw [putM_in nd]
              have st : ((pre ++ t :: post).map Tr.d).set i (D.tup [.str "not", t.d]) = (pre ++ .nt t :: post).map Tr.d := by
                rw [mp, List.set_append_right _ _ (by rw [List.length_map]; omega), List.length_map, hp, Nat.sub_self, List.map_append]
                rfl
              rw [st]
              refine svs_cons (sv_as 4 (ev_bin (ev_var (d := .int (k : Int)) 4 rfl (ev_int (opw_sub ?_)))) c_law_tree.nd)
              refine svs_nil (svs_nil ⟨(pre ++ .nt t :: post).length + (k - 1), ?_, pre ++ .nt t :: post, b3, r, k - 1, some (.int (i : Int)), v6, ?_, rfl, by simp, ?_, ?_, lb3, rfl⟩)
              · simp only [List.length_append, List.length_cons]
                omega
              · rw [show ((k - 1 : Nat) : Int) = (k : Int) - 1 by omega]
                rfl
              · intro x hx
                simp only [List.mem_append, List.mem_cons] at hx ht
                rcases hx with hx | rfl | hx
                · exact ht x (.inl hx)
                · exact ht t (.inr (.inl rfl))
                · exact ht x (.inr (.inr hx))
              · simp only [szOf_app, szOf_cons, List.length_append, List.length_cons] at hs ⊢
                have : (Tr.nt t).size = t.size + 1 := rfl
                omega
            · have l2 := hk2 z
              have m3 : ∀ {ts : List Tr}, (r, Mo.lst (ts.map Tr.d)) ∈ b3.st ++ [(r, .lst (ts.map Tr.d)), (c, .lst (ns.map D.str))] := List.mem_append_right _ List.mem_cons_self
              obtain ⟨l, hl⟩ : ∃ l : Nat, ts.length = l + 1 := ⟨ts.length - 1, by omega⟩
              refine svs_cons (sv_as 5 (hN := c_law_tree.nd) (ev_bin (ev_callT h3 PySem.Pv.boot_int (av_cons (ev_var (d := .int (i : Int)) 5 rfl (av_nil (cw_int (ev_bin (lenE (ev_int (opw_sub (opw_mod (by omega) ?_))))))))))))
              rw [show ((ts.length : Nat) : Int) - 1 = (l : Int) by omega, fmod_nat]
              generalize hj : i % l = j
              have jl : j < l := by rw [← hj]; exact Nat.mod_lt _ (by omega)
              refine svs_cons (sv_as 6 (hN := c_law_tree.nd) (ev_ix (fun _ _ => rfl) (ev_litL ((["and", "or"] : List Str).map D.str) fun q => EV.perm List.perm_middle (ev_draw (a := b3) 2 0 G h1r (by rw [lb3.2.1]; rfl) lb3.1 (by decide) (by decide) (ev_int ⟨rfl, rfl⟩) fun w b4 w0 w1 lb4 => ?_))))
              obtain ⟨bit, hbit⟩ : ∃ bit : Bool, atI ((["and", "or"] : List Str).map D.str) w = some (.str (if bit then "and" else "or")) := by
                rcases (show w = 0 ∨ w = 1 by omega) with rfl | rfl
                · exact ⟨true, rfl⟩
                · exact ⟨false, rfl⟩
              have lb4 := lb3.trans lb4
              refine xw_list (List.mem_append_right _ List.mem_cons_self) hbit ?_
              refine SVs.drop (η := b4.st ++ [(r, .lst (ts.map Tr.d)), (c, .lst (ns.map D.str))]) (List.Sublist.append (List.Sublist.refl _) (List.sublist_cons_self _ _)) ?_
              obtain ⟨pre, t, u, post, rfl, hp⟩ := split2 (xs := ts) (n := j) (by omega)
              have mp : (pre ++ t :: u :: post).map Tr.d = pre.map Tr.d ++ t.d :: u.d :: post.map Tr.d := by rw [List.map_append, List.map_cons, List.map_cons]
              have mp2 : (pre ++ t :: u :: post).map Tr.d = (pre.map Tr.d ++ [t.d]) ++ u.d :: post.map Tr.d := by rw [mp]; simp
              have m4 : ∀ {x : Mo}, (r, x) ∈ b4.st ++ [(r, x), (c, .lst (ns.map D.str))] := List.mem_append_right _ List.mem_cons_self
              have len3 : pre.length + (post.length + 2) ≤ 30 := by simpa using tl
              show SVs _ _ [some (.ref a.p), some (.ref c), some (.int (n : Nat)), some (.ref r), some (.int (k : Int)), some (.int (j : Int)), some (.str (if bit then "and" else "or")), none] _ _
              refine svs_cons (sv_as 3 (hN := c_law_tree.nd) (ev_bin (ev_bin (ev_sliceL (ev_var (d := .ref r) 3 rfl (ev_var (d := .int (j : Int)) 5 rfl ⟨j, rfl, r, _, rfl, m4, fun q1 => ?_⟩))))))
              rw [cutD_take, mp, show (pre.map Tr.d ++ t.d :: u.d :: post.map Tr.d).take j = pre.map Tr.d from List.take_left' (by rw [List.length_map]; exact hp)]
              refine ev_lst (av_cons (ev_tup (av_cons (ev_var (d := .str (if bit then "and" else "or")) 6 rfl (av_cons (ev_ix (fun _ _ => rfl) (ev_var (d := .ref r) 3 rfl (ev_var (d := .int (j : Int)) 5 rfl (xw_list (List.mem_cons_of_mem _ m4) (atI_mid (by rw [List.length_map]; exact hp)) (av_cons (ev_ix (fun _ _ => rfl) (ev_var (d := .ref r) 3 rfl (ev_bin (ev_var (d := .int (j : Int)) 5 rfl (ev_int (opw_add (xw_list (d := u.d) (List.mem_cons_of_mem _ m4) ?_ (av_nil ⟨by rw [sizeLine_eq]; show 3 ≤ 16777216; decide, av_nil ⟨by rw [sizeLine_eq]; show 1 ≤ 16777216; decide, fun q2 => opw_catL (List.mem_cons_of_mem _ List.mem_cons_self) List.mem_cons_self ?_ fun q3 => ?_⟩⟩))))))))))))))))))
              · rw [show ((j : Int) + 1) = ((j + 1 : Nat) : Int) by omega, ← mp, mp2]
                exact atI_mid (by rw [List.length_append, List.length_map, hp]; rfl)
              · rw [sizeLine_eq, List.length_map]
                show _ + 1 ≤ _
                omega
              refine ev_sliceL (ev_var (d := .ref r) 3 rfl (ev_bin (ev_var (d := .int (j : Int)) 5 rfl (ev_int (opw_add ⟨_, rfl, r, _, rfl, List.mem_cons_of_mem _ (List.mem_cons_of_mem _ (List.mem_cons_of_mem _ m4)), fun q4 => opw_catL (List.mem_cons_of_mem _ List.mem_cons_self) List.mem_cons_self ?_ fun q5 => ?_⟩)))))
              · rw [show ((j : Int) + 2) = ((j + 2 : Nat) : Int) by omega, cutD_drop, sizeLine_eq, List.length_append, List.length_map, List.length_drop]
                simp only [List.length_append, List.length_cons, List.length_map, List.length_nil]
                omega
              · rw [show ((j : Int) + 2) = ((j + 2 : Nat) : Int) by omega, cutD_drop]
                have dr : (pre.map Tr.d ++ t.d :: u.d :: post.map Tr.d).drop (j + 2) = post.map Tr.d := by
                  have e : pre.map Tr.d ++ t.d :: u.d :: post.map Tr.d = (pre.map Tr.d ++ [t.d, u.d]) ++ post.map Tr.d := by simp
                  rw [e]
                  exact List.drop_left' (by rw [List.length_append, List.length_map, hp]; rfl)
                rw [dr]
                refine SVs.drop (η := (q5, .lst ((pre ++ .bin bit t u :: post).map Tr.d)) :: (b4.st ++ [(c, .lst (ns.map D.str))])) ?_ (SVs.perm (η := b4.st ++ [(q5, .lst ((pre ++ .bin bit t u :: post).map Tr.d)), (c, .lst (ns.map D.str))]) List.perm_middle ?_)
                · have e : pre.map Tr.d ++ [D.tup [.str (if bit then "and" else "or"), t.d, u.d]] ++ post.map Tr.d = (pre ++ .bin bit t u :: post).map Tr.d := by simp [Tr.d]
                  rw [← e]
                  exact List.Sublist.cons_cons _ (((((List.Sublist.append (List.Sublist.refl _) (List.sublist_cons_self _ _)).cons _).cons _).cons _).cons _)
                · refine svs_nil (svs_nil ⟨(pre ++ .bin bit t u :: post).length + k, ?_, pre ++ .bin bit t u :: post, b4, q5, k, _, _, rfl, rfl, by simp, ?_, ?_, lb4, rfl⟩)
                  · simp only [List.length_append, List.length_cons]
                    omega
                  · intro x hx
                    simp only [List.mem_append, List.mem_cons] at hx ht
                    rcases hx with hx | rfl | hx
                    · exact ht x (.inl hx)
                    · exact ⟨ht t (.inr (.inl rfl)), ht u (.inr (.inr (.inl rfl)))⟩
                    · exact ht x (.inr (.inr (.inr hx)))
                  · simp only [szOf_app, szOf_cons, List.length_append, List.length_cons] at hs ⊢
                    have : (Tr.bin bit t u).size = t.size + u.size + 1 := rfl
                    omega
        · have l1 := hq2 qf
          obtain ⟨t, rfl⟩ := List.length_eq_one_iff.mp l1
          refine svs_cons (sv_ret (ev_ix (fun _ _ => rfl) (ev_var (d := .ref r) 3 rfl (ev_int (xw_list (List.mem_append_right _ List.mem_cons_self) (atI0 (x := t.d) (xs := [])) (lose_sub (List.Sublist.append (List.Sublist.refl _) (List.sublist_cons_self _ _)) ⟨t, b', rfl, ht t List.mem_cons_self, ?_, lb', rfl⟩))))))
          have : szOf [t] = t.size := by simp [szOf]
          have e2 : [t].length = 1 := rfl
          omega
end
end K85
end Sx

namespace Sx
namespace K85
open PySem PySem.Spec PyProof.Rows L2 TL
open LamX (Tabs TabS TabB ExtN)
theorem part_lw {ns : List Str} {t u : Tr} (h : t.lw ns) (m : u ∈ t.parts) : u.lw ns := by
  cases t with
  | nt t => rw [List.mem_singleton.mp m]; exact h
  | bin a t v =>
    simp only [Tr.parts, List.mem_cons, List.not_mem_nil, or_false] at m
    rcases m with rfl | rfl
    · exact h.1
    · exact h.2
  | _ => cases m
theorem part_good {t u : Tr} (h : t.good) (m : u ∈ t.parts) : u.good := by
  cases t with
  | nt t => rw [List.mem_singleton.mp m]; exact h
  | bin a t v =>
    simp only [Tr.parts, List.mem_cons, List.not_mem_nil, or_false] at m
    rcases m with rfl | rfl
    · exact h.1
    · exact h.2
  | _ => cases m
section
variable {P : Program} {w : World} {K : PySem.W.Frag} {mg : Str → Option Value} {base : Heap} {MC : Addr → Prop} {T : List (Addr × Str)} {f C CR CW : Addr} {fd : FuncData}
def F_lfilter (n : Nat) (C : Addr) : FS {t : Tr // t.dep ≤ n ∧ t.size ≤ 1000 ∧ ∃ ns, t.lw ns} := { args := fun t => [t.1.d], st := fun _ => [], ret := fun t d η => d = filD C t.1 ∧ η = [] }
theorem lfilter_body {n : Nat} (hn : n ≤ 100) (F : Fun K "_law_filter" "_law_filter" s_law_filter f fd) (m : mg "_law_filter" = some (.ref f)) (b : Binds K fd ["tree"] []) (KF : Makers P w K mg base MC T C CR) (O : Opers P w K mg base MC T C) (GR : Cal P w K mg base 7 "_law_ranges" ["parts"] (spOf ⟨K, MC, T⟩ (F_lranges CR)))
    (ih : ∀ t u : Tr, t.dep ≤ n → u ∈ t.parts → ∃ j, n = j + 1 ∧ FnOk P w K mg base CX0 (106 + j) f fd ["tree"] (spOf ⟨K, MC, T⟩ (F_lfilter j C)) ∧ u.dep ≤ j) : FnOk P w K mg base CX0 (106 + n) f fd ["tree"] (spOf ⟨K, MC, T⟩ (F_lfilter n C)) := by
  refine FnOk.mono (j := 105 + n + 1) (ok_of _ F c_law_filter (fun _ => rfl) fun a cdv A outer s H E hr => ?_) (by omega)
  obtain ⟨t, dp, sz, ns, lw⟩ := a
  have dp : t.dep ≤ n := dp
  have sz : t.size ≤ 1000 := sz
  have hr5 : Room 105 (A.deeper (envOfC "_law_filter" (defScope s_law_filter) s.heap.objs.size f cdv)) := hr.mono (by omega)
  obtain ⟨mc, rd, ⟨pa, ga, ca, Ka⟩, ⟨pn, gn, cn, Kn⟩, ⟨pm, gm, cm, Km⟩, ⟨pw, gw, cw, Kw⟩⟩ := KF.rd
  show SVs _ _ [some t.d, none, none] [] _
  cases t with
  | wi c ps =>
    refine svs_cons (sv_ifC (tv_cmp (nomark _) (ev_ix (fun _ _ => rfl) (ev_var (d := .tup [.str "within", .str c, partsD ps]) 0 rfl (ev_int (xw_tup atI0 (ev_str (opw_eqS ⟨_, rfl, fun _ => ?_, fun e => absurd e (by decide +kernel)⟩))))))))
    refine svs_cons (sv_ret (ev_cm rd cw Kw hr5 (ev_glob (v := .ref C) (d := .ref C) KF.glob rfl (fun _ => at_ref.mpr rfl) ⟨rfl, av_cons (ev_ix (fun _ _ => rfl) (ev_var (d := .tup [.str "within", .str c, partsD ps]) 0 rfl (ev_int (xw_tup atI1 (av_cons (ev_cal0 GR (hr.mono (by omega)) (av_cons (ev_ix (fun _ _ => rfl) (ev_var (d := .tup [.str "within", .str c, partsD ps]) 0 rfl (ev_int (xw_tup atI2 (av_nil ⟨(⟨ps, by have := lw.2.len; omega⟩, none), rfl, rfl, ?_, fun _ _ _ _ z => z⟩))))))))))))⟩)))
    rintro d η' ⟨rfl, rfl⟩
    rw [show foldU ps = ps from lw.2.good.all]
    refine av_nil ⟨⟨(c, ps), by have := lw.2.len; show ps.length ≤ 1000; omega⟩, [], rfl, List.Perm.refl _, ?_, fun _ _ _ _ z => z.elim⟩
    rintro d η' ⟨rfl, rfl⟩
    exact lose_nil ⟨rfl, rfl⟩
  | miss c =>
    refine svs_cons (sv_ifC (tv_cmp (nomark _) (ev_ix (fun _ _ => rfl) (ev_var (d := .tup [.str "missing", .str c]) 0 rfl (ev_int (xw_tup atI0 (ev_str (opw_eqS ⟨_, rfl, fun e => absurd e (by decide +kernel), fun _ => svs_nil ?_⟩))))))))
    refine svs_cons (sv_ifC (tv_cmp (nomark _) (ev_ix (fun _ _ => rfl) (ev_var (d := .tup [.str "missing", .str c]) 0 rfl (ev_int (xw_tup atI0 (ev_str (opw_eqS ⟨_, rfl, fun _ => ?_, fun e => absurd e (by decide +kernel)⟩))))))))
    refine svs_cons (sv_ret (ev_cm rd cm Km hr5 (ev_glob (v := .ref C) (d := .ref C) KF.glob rfl (fun _ => at_ref.mpr rfl) ⟨rfl, av_cons (ev_ix (fun _ _ => rfl) (ev_var (d := .tup [.str "missing", .str c]) 0 rfl (ev_int (xw_tup atI1 (av_nil ⟨c, [], rfl, List.Perm.refl _, ?_, fun _ _ _ _ z => z.elim⟩)))))⟩)))
    rintro d η' ⟨rfl, rfl⟩
    exact lose_nil ⟨rfl, rfl⟩
  | always =>
    refine svs_cons (sv_ifC (tv_cmp (nomark _) (ev_ix (fun _ _ => rfl) (ev_var (d := .tup [.str "always"]) 0 rfl (ev_int (xw_tup atI0 (ev_str (opw_eqS ⟨_, rfl, fun e => absurd e (by decide +kernel), fun _ => svs_nil ?_⟩))))))))
    refine svs_cons (sv_ifC (tv_cmp (nomark _) (ev_ix (fun _ _ => rfl) (ev_var (d := .tup [.str "always"]) 0 rfl (ev_int (xw_tup atI0 (ev_str (opw_eqS ⟨_, rfl, fun e => absurd e (by decide +kernel), fun _ => svs_nil ?_⟩))))))))
    refine svs_cons (sv_ifC (tv_cmp rfl (ev_ix (fun _ _ => rfl) (ev_var (d := .tup [.str "always"]) 0 rfl (ev_int (xw_tup atI0 (ev_lit (.tup ((["always", "never"] : List Str).map D.str)) (opw_inTS (o := some "always") ⟨_, rfl, fun _ => ?_, fun e => absurd e (by decide +kernel)⟩))))))))
    refine svs_cons (sv_ret (ev_ifC (tv_cmp (nomark _) (ev_ix (fun _ _ => rfl) (ev_var (d := .tup [.str "always"]) 0 rfl (ev_int (xw_tup atI0 (ev_str (opw_eqS ⟨_, rfl, fun _ => ?_, fun e => absurd e (by decide +kernel)⟩)))))))))
    refine ev_cm0 rd ca Ka hr5 (ev_glob (v := .ref C) (d := .ref C) KF.glob rfl (fun _ => at_ref.mpr rfl) ⟨rfl, (), [], rfl, List.Perm.refl _, ?_, fun _ _ _ _ z => z.elim⟩)
    rintro d η' ⟨rfl, rfl⟩
    exact lose_nil ⟨rfl, rfl⟩
  | never =>
    refine svs_cons (sv_ifC (tv_cmp (nomark _) (ev_ix (fun _ _ => rfl) (ev_var (d := .tup [.str "never"]) 0 rfl (ev_int (xw_tup atI0 (ev_str (opw_eqS ⟨_, rfl, fun e => absurd e (by decide +kernel), fun _ => svs_nil ?_⟩))))))))
    refine svs_cons (sv_ifC (tv_cmp (nomark _) (ev_ix (fun _ _ => rfl) (ev_var (d := .tup [.str "never"]) 0 rfl (ev_int (xw_tup atI0 (ev_str (opw_eqS ⟨_, rfl, fun e => absurd e (by decide +kernel), fun _ => svs_nil ?_⟩))))))))
    refine svs_cons (sv_ifC (tv_cmp rfl (ev_ix (fun _ _ => rfl) (ev_var (d := .tup [.str "never"]) 0 rfl (ev_int (xw_tup atI0 (ev_lit (.tup ((["always", "never"] : List Str).map D.str)) (opw_inTS (o := some "never") ⟨_, rfl, fun _ => ?_, fun e => absurd e (by decide +kernel)⟩))))))))
    refine svs_cons (sv_ret (ev_ifC (tv_cmp (nomark _) (ev_ix (fun _ _ => rfl) (ev_var (d := .tup [.str "never"]) 0 rfl (ev_int (xw_tup atI0 (ev_str (opw_eqS ⟨_, rfl, fun e => absurd e (by decide +kernel), fun _ => ?_⟩)))))))))
    refine ev_cm0 rd cn Kn hr5 (ev_glob (v := .ref C) (d := .ref C) KF.glob rfl (fun _ => at_ref.mpr rfl) ⟨rfl, (), [], rfl, List.Perm.refl _, ?_, fun _ _ _ _ z => z.elim⟩)
    rintro d η' ⟨rfl, rfl⟩
    exact lose_nil ⟨rfl, rfl⟩
  | nt t =>
    obtain ⟨j, ej, oj, dj⟩ := ih (.nt t) t dp List.mem_cons_self
    have GF : Cal P w K mg base (106 + j) "_law_filter" ["tree"] (spOf ⟨K, MC, T⟩ (F_lfilter j C)) := cal_mk oj m F.kp b
    have sz2 := (part_dep (t := .nt t) (u := t) List.mem_cons_self).2
    refine svs_cons (sv_ifC (tv_cmp (nomark _) (ev_ix (fun _ _ => rfl) (ev_var (d := .tup [.str "not", t.d]) 0 rfl (ev_int (xw_tup atI0 (ev_str (opw_eqS ⟨_, rfl, fun e => absurd e (by decide +kernel), fun _ => svs_nil ?_⟩))))))))
    refine svs_cons (sv_ifC (tv_cmp (nomark _) (ev_ix (fun _ _ => rfl) (ev_var (d := .tup [.str "not", t.d]) 0 rfl (ev_int (xw_tup atI0 (ev_str (opw_eqS ⟨_, rfl, fun e => absurd e (by decide +kernel), fun _ => svs_nil ?_⟩))))))))
    refine svs_cons (sv_ifC (tv_cmp rfl (ev_ix (fun _ _ => rfl) (ev_var (d := .tup [.str "not", t.d]) 0 rfl (ev_int (xw_tup atI0 (ev_lit (.tup ((["always", "never"] : List Str).map D.str)) (opw_inTS (o := some "not") ⟨_, rfl, fun e => absurd e (by decide +kernel), fun _ => svs_nil ?_⟩))))))))
    refine svs_cons (sv_as 1 (hN := c_law_filter.nd) (ev_cal GF (hr.mono (by omega)) (av_cons (ev_ix (fun _ _ => rfl) (ev_var (d := .tup [.str "not", t.d]) 0 rfl (ev_int (xw_tup atI1 (av_nil ⟨⟨t, dj, by omega, ns, lw⟩, [], rfl, List.Perm.refl _, ?_, fun _ _ _ _ z => z.elim⟩))))))))
    rintro d η' ⟨rfl, rfl⟩
    show SVs _ _ [some (.tup [.str "not", t.d]), some (filD C t), none] [] _
    refine svs_cons (sv_ifC (tv_cmp (nomark _) (ev_ix (fun _ _ => rfl) (ev_var (d := .tup [.str "not", t.d]) 0 rfl (ev_int (xw_tup atI0 (ev_str (opw_eqS ⟨_, rfl, fun _ => ?_, fun e => absurd e (by decide +kernel)⟩))))))))
    exact svs_cons (sv_ret (ev_un (ev_var (d := filD C t) 1 rfl (unw_fnot O hr5 (by omega) sz (lose_nil ⟨rfl, rfl⟩)))))
  | bin a t u =>
    obtain ⟨j, ej, oj, dj⟩ := ih (.bin a t u) t dp List.mem_cons_self
    obtain ⟨j2, ej2, oj2, dj2⟩ := ih (.bin a t u) u dp (List.mem_cons_of_mem _ List.mem_cons_self)
    obtain rfl : j2 = j := by omega
    have GF : Cal P w K mg base (106 + j2) "_law_filter" ["tree"] (spOf ⟨K, MC, T⟩ (F_lfilter j2 C)) := cal_mk oj m F.kp b
    have sz2 := (part_dep (t := .bin a t u) (u := t) List.mem_cons_self).2
    have sz3 := (part_dep (t := .bin a t u) (u := u) (List.mem_cons_of_mem _ List.mem_cons_self)).2
    refine svs_cons (sv_ifC (tv_cmp (nomark _) (ev_ix (fun _ _ => rfl) (ev_var (d := .tup [.str (if a then "and" else "or"), t.d, u.d]) 0 rfl (ev_int (xw_tup atI0 (ev_str (opw_eqS ⟨_, rfl, fun e => absurd e (by cases a <;> decide +kernel), fun _ => svs_nil ?_⟩))))))))
    refine svs_cons (sv_ifC (tv_cmp (nomark _) (ev_ix (fun _ _ => rfl) (ev_var (d := .tup [.str (if a then "and" else "or"), t.d, u.d]) 0 rfl (ev_int (xw_tup atI0 (ev_str (opw_eqS ⟨_, rfl, fun e => absurd e (by cases a <;> decide +kernel), fun _ => svs_nil ?_⟩))))))))
    refine svs_cons (sv_ifC (tv_cmp rfl (ev_ix (fun _ _ => rfl) (ev_var (d := .tup [.str (if a then "and" else "or"), t.d, u.d]) 0 rfl (ev_int (xw_tup atI0 (ev_lit (.tup ((["always", "never"] : List Str).map D.str)) (opw_inTS (o := some (if a then "and" else "or")) ⟨_, rfl, fun e => absurd e (by cases a <;> decide +kernel), fun _ => svs_nil ?_⟩))))))))
    refine svs_cons (sv_as 1 (hN := c_law_filter.nd) (ev_cal GF (hr.mono (by omega)) (av_cons (ev_ix (fun _ _ => rfl) (ev_var (d := .tup [.str (if a then "and" else "or"), t.d, u.d]) 0 rfl (ev_int (xw_tup atI1 (av_nil ⟨⟨t, dj, by omega, ns, lw.1⟩, [], rfl, List.Perm.refl _, ?_, fun _ _ _ _ z => z.elim⟩))))))))
    rintro d η' ⟨rfl, rfl⟩
    show SVs _ _ [some (.tup [.str (if a then "and" else "or"), t.d, u.d]), some (filD C t), none] [] _
    refine svs_cons (sv_ifC (tv_cmp (nomark _) (ev_ix (fun _ _ => rfl) (ev_var (d := .tup [.str (if a then "and" else "or"), t.d, u.d]) 0 rfl (ev_int (xw_tup atI0 (ev_str (opw_eqS ⟨_, rfl, fun e => absurd e (by cases a <;> decide +kernel), fun _ => svs_nil ?_⟩))))))))
    refine svs_cons (sv_as 2 (hN := c_law_filter.nd) (ev_cal GF (hr.mono (by omega)) (av_cons (ev_ix (fun _ _ => rfl) (ev_var (d := .tup [.str (if a then "and" else "or"), t.d, u.d]) 0 rfl (ev_int (xw_tup atI2 (av_nil ⟨⟨u, dj2, by omega, ns, lw.2⟩, [], rfl, List.Perm.refl _, ?_, fun _ _ _ _ z => z.elim⟩))))))))
    rintro d η' ⟨rfl, rfl⟩
    show SVs _ _ [some (.tup [.str (if a then "and" else "or"), t.d, u.d]), some (filD C t), some (filD C u)] [] _
    cases a with
    | true =>
      refine svs_cons (sv_ret (ev_ifC (tv_cmp (nomark _) (ev_ix (fun _ _ => rfl) (ev_var (d := .tup [.str "and", t.d, u.d]) 0 rfl (ev_int (xw_tup atI0 (ev_str (opw_eqS ⟨_, rfl, fun _ => ?_, fun e => absurd e (by decide +kernel)⟩)))))))))
      exact ev_bin (ev_var (d := filD C t) 1 rfl (ev_var (d := filD C u) 2 rfl (opw_fand O hr5 (by omega) sz (lose_nil ⟨rfl, rfl⟩))))
    | false =>
      refine svs_cons (sv_ret (ev_ifC (tv_cmp (nomark _) (ev_ix (fun _ _ => rfl) (ev_var (d := .tup [.str "or", t.d, u.d]) 0 rfl (ev_int (xw_tup atI0 (ev_str (opw_eqS ⟨_, rfl, fun e => absurd e (by decide +kernel), fun _ => ?_⟩)))))))))
      exact ev_bin (ev_var (d := filD C t) 1 rfl (ev_var (d := filD C u) 2 rfl (opw_for O hr5 (by omega) sz (lose_nil ⟨rfl, rfl⟩))))
theorem k_lfilter (F : Fun K "_law_filter" "_law_filter" s_law_filter f fd) (m : mg "_law_filter" = some (.ref f)) (b : Binds K fd ["tree"] []) (KF : Makers P w K mg base MC T C CR) (O : Opers P w K mg base MC T C) (GR : Cal P w K mg base 7 "_law_ranges" ["parts"] (spOf ⟨K, MC, T⟩ (F_lranges CR))) : ∀ n : Nat, n ≤ 100 → FnOk P w K mg base CX0 (106 + n) f fd ["tree"] (spOf ⟨K, MC, T⟩ (F_lfilter n C)) := by
  intro n
  induction n with
  | zero => exact fun hn => lfilter_body hn F m b KF O GR fun t u h1 h2 => by have := (part_dep h2).1; omega
  | succ n ih => exact fun hn => lfilter_body hn F m b KF O GR fun t u h1 h2 => ⟨n, rfl, ih (by omega), by have := (part_dep h2).1; omega⟩
end
end K85
end Sx

namespace Sx
namespace K85
open PySem PySem.Spec PyProof.Rows L2 TL
open LamX (Tabs TabS TabB ExtN)
def Tr.sign : Tr → Str
  | .nt _ => "~"
  | .bin a _ _ => sgn a
  | _ => ""
theorem ws_sign {t : Tr} (h : t.isS = true) : t.ws = t.sign :: t.parts.flatMap Tr.ws ∧ t.rest = t.parts.map Tr.d := by
  cases t with
  | nt t => exact ⟨by simp [Tr.ws, Tr.sign, Tr.parts], rfl⟩
  | bin a t u => exact ⟨by simp [Tr.ws, Tr.sign, Tr.parts], rfl⟩
  | _ => cases h
def signK : List (Str × D) := [("and", .str "&"), ("or", .str "|"), ("not", .str "~")]
theorem sign_val {t : Tr} (h : t.isS = true) : valD (signK.map fun p => (Sum.inr p.1, p.2)) (Sum.inr t.hd) = some (.str t.sign) := by
  cases t with
  | nt t => rfl
  | bin a t u => cases a <;> rfl
  | _ => cases h
section
variable {P : Program} {w : World} {K : PySem.W.Frag} {mg : Str → Option Value} {base : Heap} {MC : Addr → Prop} {T : List (Addr × Str)} {f C CR CW : Addr} {fd : FuncData}
def F_lwords (n : Nat) : FS {t : Tr // t.dep ≤ n ∧ t.size ≤ 1000 ∧ t.good} := { args := fun t => [t.1.d], st := fun _ => [], ret := fun t d η => ∃ q, d = .ref q ∧ η = [(q, .lst (t.1.ws.map D.str))] }
theorem lwords_body {n : Nat} (F : Fun K "_law_words" "_law_words" s_law_words f fd) (m : mg "_law_words" = some (.ref f)) (b : Binds K fd ["tree"] []) (GP : Cal P w K mg base 1 "_law_parts_text" ["parts"] (spOf ⟨K, MC, T⟩ F_ptext)) (hl : mg "list" = none)
    (ih : ∀ t u : Tr, t.dep ≤ n → u ∈ t.parts → ∃ j, n = j + 1 ∧ FnOk P w K mg base CX0 (2 + j) f fd ["tree"] (spOf ⟨K, MC, T⟩ (F_lwords j)) ∧ u.dep ≤ j) : FnOk P w K mg base CX0 (2 + n) f fd ["tree"] (spOf ⟨K, MC, T⟩ (F_lwords n)) := by
  refine FnOk.mono (j := 1 + n + 1) (ok_of _ F c_law_words (fun _ => rfl) fun a cdv A outer s H E hr => ?_) (by omega)
  obtain ⟨t, dp, sz, gd⟩ := a
  have dp : t.dep ≤ n := dp
  have sz : t.size ≤ 1000 := sz
  have gd : t.good := gd
  have hu := un200 hr
  have wl := ws_size t
  have sig : ∀ (hs : t.isS = true), SVs (yBody P w K mg base MC T n_law_words "_law_words" (defScope s_law_words) f cdv A outer s H E) ((defBody s_law_words).drop 2) [some t.d, none, none, none] [] { nx := fun _ η => Lose ((F_lwords n).ret ⟨t, dp, sz, gd⟩ .non) η, rt := fun d η => Lose ((F_lwords n).ret ⟨t, dp, sz, gd⟩ d) η } := by
    intro hs
    obtain ⟨e1, e2⟩ := ws_sign hs
    rw [t.d_is]
    refine svs_cons (sv_as 1 (hN := c_law_words.nd) (ev_dget (hu_of hr) (fun _ _ => rfl) (ev_disp3 fun p => ev_str (ev_str (ev_str (ev_str (ev_str (ev_str ?_))))))))
    refine ⟨signK, [], rfl, by show ([("and" : Str), "or", "not"] : List Str).Nodup; decide, by show 3 ≤ 15; decide, List.Perm.refl _, ?_⟩
    refine ev_ix (fun _ _ => rfl) (ev_var (d := .tup (.str t.hd :: t.rest)) 0 rfl (ev_int (xw_tup atI0 ⟨p, _, Sum.inr t.hd, .str t.sign, rfl, List.mem_cons_self, .str t.hd, sign_val hs, ?_⟩)))
    refine SVs.drop (List.nil_sublist _) ?_
    refine svs_cons (sv_as 2 (hN := c_law_words.nd) (ev_lst (av_cons (ev_var (d := .str t.sign) 1 rfl (av_nil ⟨by rw [sizeLine_eq]; show 1 ≤ 16777216; decide, fun q => ?_⟩)))))
    show SVs _ _ [some (.tup (.str t.hd :: t.rest)), some (.str t.sign), some (.ref q), none] [(q, .lst (([t.sign] : List Str).map D.str))] _
    refine svs_cons (sv_forI (.nm 3) PassesOwn.never rfl (pg_name c_law_words.nd rfl (Or.inl rfl)) (iv_tup (ev_sliceT (ev_var (d := .tup (.str t.hd :: t.rest)) 0 rfl (ev_int ⟨1, rfl, .str t.hd :: t.rest, rfl, ?_⟩)))))
    refine ⟨_, rfl, fun i ρ' η' => ∃ (r : Addr) (v : Option D), η' = [(r, .lst ((t.sign :: (t.parts.take i).flatMap Tr.ws).map D.str))] ∧ ρ' = [some (.tup (.str t.hd :: t.rest)), some (.str t.sign), some (.ref r), v], fun _ _ _ _ => trivial, ⟨q, none, rfl, rfl⟩, ?_, ?_⟩
    · rintro i d ρ' η' ed ⟨r, v, rfl, rfl⟩
      rw [cut1, e2, List.getElem?_map, Option.map_eq_some_iff] at ed
      obtain ⟨u, eu, rfl⟩ := ed
      have mu : u ∈ t.parts := List.mem_of_getElem? eu
      obtain ⟨j, ej, oj, dj⟩ := ih t u dp mu
      have G : Cal P w K mg base (2 + j) "_law_words" ["tree"] (spOf ⟨K, MC, T⟩ (F_lwords j)) := cal_mk oj m F.kp b
      refine ⟨trivial, svs_cons (sv_as 2 (hN := c_law_words.nd) (ev_bin (ev_var (d := .ref r) 2 rfl (ev_cal0 G (hr.mono (by omega)) (av_cons (ev_var (d := u.d) 3 rfl (av_nil ⟨⟨u, dj, by have := (part_dep mu).2; omega, part_good gd mu⟩, rfl, rfl, ?_, fun _ _ _ _ z => z⟩)))))))⟩
      rintro d η' ⟨p, rfl, rfl⟩
      have nx : (t.parts.take (i + 1)).flatMap Tr.ws = (t.parts.take i).flatMap Tr.ws ++ u.ws := by
        rw [List.take_add_one, eu, List.flatMap_append]
        simp
      have sub : ((t.parts.take (i + 1)).flatMap Tr.ws).length + 1 ≤ t.ws.length := by
        rw [e1, List.length_cons]
        conv => rhs; rw [← List.take_append_drop (i + 1) t.parts, List.flatMap_append, List.length_append]
        omega
      rw [nx, List.length_append] at sub
      refine opw_catL (List.mem_cons_of_mem _ List.mem_cons_self) List.mem_cons_self (by rw [sizeLine_eq, List.length_map, List.length_map, List.length_cons]; show _ + u.ws.length ≤ _; omega) fun r2 => ?_
      rw [← List.map_append, List.cons_append, ← nx]
      exact SVs.drop ((List.nil_sublist _).cons_cons _) (svs_nil ⟨r2, _, rfl, rfl⟩)
    · rintro ρ' η' ⟨r, v, rfl, rfl⟩
      rw [cut1, e2, List.length_map, List.take_length, ← e1]
      exact svs_cons (sv_ret (ev_var (d := .ref r) 2 rfl (lose_id ⟨r, rfl, rfl⟩)))
  show SVs _ _ [some t.d, none, none, none] [] _
  cases t with
  | wi c ps =>
    refine svs_cons (sv_ifC (tv_cmp (nomark _) (ev_ix (fun _ _ => rfl) (ev_var (d := .tup [.str "within", .str c, partsD ps]) 0 rfl (ev_int (xw_tup atI0 (ev_str (opw_eqS ⟨_, rfl, fun _ => ?_, fun e => absurd e (by decide +kernel)⟩))))))))
    refine svs_cons (sv_ret (ev_lst (av_cons (ev_str (av_cons (ev_ix (fun _ _ => rfl) (ev_var (d := .tup [.str "within", .str c, partsD ps]) 0 rfl (ev_int (xw_tup atI1 (av_cons (ev_cal0 GP (hr.mono (by omega)) (av_cons (ev_ix (fun _ _ => rfl) (ev_var (d := .tup [.str "within", .str c, partsD ps]) 0 rfl (ev_int (xw_tup atI2 (av_nil ⟨⟨ps, gd.2.okPs⟩, rfl, rfl, ?_, fun _ _ _ _ z => z⟩)))))))))))))))))
    rintro d η' ⟨rfl, rfl⟩
    exact av_nil ⟨by rw [sizeLine_eq]; show 3 ≤ 16777216; decide, fun q => lose_id ⟨q, rfl, rfl⟩⟩
  | miss c =>
    refine svs_cons (sv_ifC (tv_cmp (nomark _) (ev_ix (fun _ _ => rfl) (ev_var (d := .tup [.str "missing", .str c]) 0 rfl (ev_int (xw_tup atI0 (ev_str (opw_eqS ⟨_, rfl, fun e => absurd e (by decide +kernel), fun _ => svs_nil ?_⟩))))))))
    refine svs_cons (sv_ifC (tv_cmp rfl (ev_ix (fun _ _ => rfl) (ev_var (d := .tup [.str "missing", .str c]) 0 rfl (ev_int (xw_tup atI0 (ev_lit (.tup ((["missing", "always", "never"] : List Str).map D.str)) (opw_inTS (o := some "missing") ⟨_, rfl, fun _ => ?_, fun e => absurd e (by decide +kernel)⟩))))))))
    exact svs_cons (sv_ret (ev_callT hl (by decide +kernel) (av_cons (ev_var (d := .tup [.str "missing", .str c]) 0 rfl (av_nil (cw_lstT fun q => lose_id ⟨q, rfl, rfl⟩))))))
  | always =>
    refine svs_cons (sv_ifC (tv_cmp (nomark _) (ev_ix (fun _ _ => rfl) (ev_var (d := .tup [.str "always"]) 0 rfl (ev_int (xw_tup atI0 (ev_str (opw_eqS ⟨_, rfl, fun e => absurd e (by decide +kernel), fun _ => svs_nil ?_⟩))))))))
    refine svs_cons (sv_ifC (tv_cmp rfl (ev_ix (fun _ _ => rfl) (ev_var (d := .tup [.str "always"]) 0 rfl (ev_int (xw_tup atI0 (ev_lit (.tup ((["missing", "always", "never"] : List Str).map D.str)) (opw_inTS (o := some "always") ⟨_, rfl, fun _ => ?_, fun e => absurd e (by decide +kernel)⟩))))))))
    exact svs_cons (sv_ret (ev_callT hl (by decide +kernel) (av_cons (ev_var (d := .tup [.str "always"]) 0 rfl (av_nil (cw_lstT fun q => lose_id ⟨q, rfl, rfl⟩))))))
  | never =>
    refine svs_cons (sv_ifC (tv_cmp (nomark _) (ev_ix (fun _ _ => rfl) (ev_var (d := .tup [.str "never"]) 0 rfl (ev_int (xw_tup atI0 (ev_str (opw_eqS ⟨_, rfl, fun e => absurd e (by decide +kernel), fun _ => svs_nil ?_⟩))))))))
    refine svs_cons (sv_ifC (tv_cmp rfl (ev_ix (fun _ _ => rfl) (ev_var (d := .tup [.str "never"]) 0 rfl (ev_int (xw_tup atI0 (ev_lit (.tup ((["missing", "always", "never"] : List Str).map D.str)) (opw_inTS (o := some "never") ⟨_, rfl, fun _ => ?_, fun e => absurd e (by decide +kernel)⟩))))))))
    exact svs_cons (sv_ret (ev_callT hl (by decide +kernel) (av_cons (ev_var (d := .tup [.str "never"]) 0 rfl (av_nil (cw_lstT fun q => lose_id ⟨q, rfl, rfl⟩))))))
  | nt t =>
    refine svs_cons (sv_ifC (tv_cmp (nomark _) (ev_ix (fun _ _ => rfl) (ev_var (d := .tup [.str "not", t.d]) 0 rfl (ev_int (xw_tup atI0 (ev_str (opw_eqS ⟨_, rfl, fun e => absurd e (by decide +kernel), fun _ => svs_nil ?_⟩))))))))
    refine svs_cons (sv_ifC (tv_cmp rfl (ev_ix (fun _ _ => rfl) (ev_var (d := .tup [.str "not", t.d]) 0 rfl (ev_int (xw_tup atI0 (ev_lit (.tup ((["missing", "always", "never"] : List Str).map D.str)) (opw_inTS (o := some "not") ⟨_, rfl, fun e => absurd e (by decide +kernel), fun _ => svs_nil ?_⟩))))))))
    exact sig rfl
  | bin a t u =>
    refine svs_cons (sv_ifC (tv_cmp (nomark _) (ev_ix (fun _ _ => rfl) (ev_var (d := .tup [.str (if a then "and" else "or"), t.d, u.d]) 0 rfl (ev_int (xw_tup atI0 (ev_str (opw_eqS ⟨_, rfl, fun e => absurd e (by cases a <;> decide +kernel), fun _ => svs_nil ?_⟩))))))))
    refine svs_cons (sv_ifC (tv_cmp rfl (ev_ix (fun _ _ => rfl) (ev_var (d := .tup [.str (if a then "and" else "or"), t.d, u.d]) 0 rfl (ev_int (xw_tup atI0 (ev_lit (.tup ((["missing", "always", "never"] : List Str).map D.str)) (opw_inTS (o := some (if a then "and" else "or")) ⟨_, rfl, fun e => absurd e (by cases a <;> decide +kernel), fun _ => svs_nil ?_⟩))))))))
    exact sig rfl
theorem k_lwords (F : Fun K "_law_words" "_law_words" s_law_words f fd) (m : mg "_law_words" = some (.ref f)) (b : Binds K fd ["tree"] []) (GP : Cal P w K mg base 1 "_law_parts_text" ["parts"] (spOf ⟨K, MC, T⟩ F_ptext)) (hl : mg "list" = none) : ∀ n : Nat, FnOk P w K mg base CX0 (2 + n) f fd ["tree"] (spOf ⟨K, MC, T⟩ (F_lwords n)) := by
  intro n
  induction n with
  | zero => exact lwords_body F m b GP hl fun t u h1 h2 => by have := (part_dep h2).1; omega
  | succ n ih => exact lwords_body F m b GP hl fun t u h1 h2 => ⟨n, rfl, ih, by have := (part_dep h2).1; omega⟩
end
end K85
end Sx

namespace Sx
namespace K85
open PySem PySem.Spec PyProof.Rows L2 TL
open LamX (Tabs TabS TabB ExtN)
/-- j rounds are over -/
structure Round (m : Nat) (ns : List Str) (n : Nat) (ts : List Tr) (j : Nat) : Prop where
  lw : ∀ t ∈ ts, t.lw ns
  dep : ∀ t ∈ ts, t.dep ≤ j
  len : ts.length ≤ 2 ^ (m - j)
  jl : j ≤ m
  sz : szOf ts + ts.length ≤ 2 * n
  ne : ts ≠ []
/-- within a round: i pairs are joined -/
structure Pairs (ns : List Str) (ts fs : List Tr) (j i : Nat) : Prop where
  il : fs.length = i
  lw : ∀ t ∈ fs, t.lw ns
  dep : ∀ t ∈ fs, t.dep ≤ j + 1
  sz : szOf fs = szOf (ts.take (2 * i)) + i
theorem Round.next {m : Nat} {ns : List Str} {n : Nat} {ts fs : List Tr} {j : Nat} (R : Round m ns n ts j) (p : Pairs ns ts fs j (ts.length / 2)) (h : 1 < ts.length) : Round m ns n (fs ++ ts.drop (2 * fs.length)) (j + 1) ∧ (fs ++ ts.drop (2 * fs.length)).length < ts.length := by
  have il := p.il
  have j6 : j < m := by
    have h1 := R.len
    rcases Nat.lt_or_ge j m with h2 | h2
    · exact h2
    · have : m - j = 0 := by omega
      rw [this] at h1
      have h3 : ts.length ≤ 1 := h1
      omega
  have pw : 2 ^ (m - j) = 2 * 2 ^ (m - (j + 1)) := by
    rw [show m - j = (m - (j + 1)) + 1 by omega, Nat.pow_succ]
    omega
  have hl := R.len
  rw [pw] at hl
  have ll : (fs ++ ts.drop (2 * fs.length)).length = ts.length - ts.length / 2 := by
    rw [List.length_append, List.length_drop, il]
    omega
  refine ⟨⟨?_, ?_, ?_, by omega, ?_, ?_⟩, by omega⟩
  · intro t ht
    rcases List.mem_append.mp ht with ht | ht
    · exact p.lw t ht
    · exact R.lw t (List.mem_of_mem_drop ht)
  · intro t ht
    rcases List.mem_append.mp ht with ht | ht
    · exact p.dep t ht
    · exact Nat.le_succ_of_le (R.dep t (List.mem_of_mem_drop ht))
  · rw [ll]
    generalize 2 ^ (m - (j + 1)) = X at hl ⊢
    omega
  · have hs := R.sz
    have e := congrArg szOf (List.take_append_drop (2 * fs.length) ts)
    rw [szOf_app] at e
    have e2 := p.sz
    rw [← il] at e2
    rw [ll, szOf_app]
    omega
  · intro e
    rw [e] at ll
    have : ([] : List Tr).length = 0 := rfl
    omega
theorem Pairs.next {m : Nat} {ns : List Str} {n : Nat} {ts fs : List Tr} {j i : Nat} (R : Round m ns n ts j) (p : Pairs ns ts fs j i) {t u : Tr} (bit : Bool) (e1 : ts[2 * i]? = some t) (e2 : ts[2 * i + 1]? = some u) : Pairs ns ts (fs ++ [.bin bit t u]) j (i + 1) where
  il := by rw [List.length_append, p.il]; rfl
  lw := by
    intro x hx
    rcases List.mem_append.mp hx with hx | hx
    · exact p.lw x hx
    · rw [List.mem_singleton.mp hx]
      exact ⟨R.lw t (List.mem_of_getElem? e1), R.lw u (List.mem_of_getElem? e2)⟩
  dep := by
    intro x hx
    rcases List.mem_append.mp hx with hx | hx
    · exact p.dep x hx
    · rw [List.mem_singleton.mp hx]
      have h1 := R.dep t (List.mem_of_getElem? e1)
      have h2 := R.dep u (List.mem_of_getElem? e2)
      simp only [Tr.dep]
      omega
  sz := by
    have tk : ts.take (2 * (i + 1)) = ts.take (2 * i) ++ [t] ++ [u] := by
      rw [show 2 * (i + 1) = 2 * i + 1 + 1 by omega, List.take_add_one, e2, List.take_add_one, e1]
      rfl
    rw [tk, szOf_app, szOf_app, szOf_app, p.sz]
    have h1 : szOf [.bin bit t u] = t.size + u.size + 1 := by simp [szOf, Tr.size]
    have h2 : szOf [t] = t.size := by simp [szOf]
    have h3 : szOf [u] = u.size := by simp [szOf]
    omega
section
variable {P : Program} {w : World} {K : PySem.W.Frag} {mg : Str → Option Value} {base : Heap} {MC : Addr → Prop} {T : List (Addr × Str)} {f C CW : Addr} {fd : FuncData}
def F_lflat : FS {x : ColA × Nat // x.1.a.ok ∧ okN x.1.ns ∧ 1 ≤ x.2 ∧ x.2 ≤ 60} := { args := fun x => [.ref x.1.1.a.p, .ref x.1.1.c, .int (x.1.2 : Nat)], st := fun x => x.1.1.st, ret := fun x d η => ∃ (t : Tr) (b : PenA), d = t.d ∧ t.lw x.1.1.ns ∧ t.dep ≤ 7 ∧ t.size ≤ 121 ∧ x.1.1.a.later b ∧ η = b.st ++ [(x.1.1.c, .lst (x.1.1.ns.map D.str))] }
theorem k_lflat (F : Fun K "_law_flat" "_law_flat" s_law_flat f fd) (G : Cal P w K mg base 1 "_law_draw" ["pen", "many"] (spOf ⟨K, MC, T⟩ F_draw)) (GL : Cal P w K mg base 4 "_law_leaf" ["pen", "columns"] (spOf ⟨K, MC, T⟩ F_leaf)) (h1 : mg "len" = none) (h2 : mg "range" = none) : FnOk P w K mg base CX0 5 f fd ["pen", "columns", "many"] (spOf ⟨K, MC, T⟩ F_lflat) :=
  ok_of _ F c_law_flat (fun _ => rfl) fun a cdv A outer s H E hr => by
    obtain ⟨⟨⟨a, c, ns⟩, n⟩, ok, on, n1, n2⟩ := a
    have ok : a.ok := ok
    have on : okN ns := on
    have n1 : 1 ≤ n := n1
    have n2 : n ≤ 60 := n2
    have h1r : Room 1 (A.deeper (envOfC "_law_flat" (defScope s_law_flat) s.heap.objs.size f cdv)) := hr.mono (by decide)
    show SVs _ _ [some (.ref a.p), some (.ref c), some (.int (n : Nat)), none, none, none] (a.st ++ [(c, .lst (ns.map D.str))]) _
    refine svs_cons (sv_setLc (own := [("k", 5)]) 3 (.nm 5) rfl c_law_flat.nd rfl rfl (sw_true rfl rfl rfl (by decide +kernel)) (blkOk_by (N := n_law_flat) (sc := defScope s_law_flat) (by decide +kernel)) (fun _ _ _ _ _ => pg_name c_law_flat.nd rfl (Or.inl rfl) (Or.inr rfl)) (by decide) ?_)
    refine iv_rng1 h2 (av_cons (ev_var (d := .int (n : Nat)) 2 rfl (av_nil ⟨n, rfl, by omega, by omega, ?_⟩)))
    refine ⟨fun i acc η => ∃ (ts : List Tr) (b : PenA), acc = ts.map Tr.d ∧ ts.length = i ∧ i ≤ n ∧ (∀ t ∈ ts, t.isLeaf = true ∧ t.lw ns) ∧ a.later b ∧ η = b.st ++ [(c, .lst (ns.map D.str))], ?_, ⟨[], a, rfl, rfl, Nat.zero_le _, fun u hu => absurd hu List.not_mem_nil, PenA.later.refl ok, rfl⟩, ?_, ?_⟩
    · rintro i acc η ⟨ts, b, rfl, rfl, hi, _⟩
      refine ⟨trivial, ?_⟩
      rw [List.length_map, sizeLine_eq]
      omega
    · rintro i d acc η e ⟨ts, b, rfl, rfl, hi, ht, lb, rfl⟩
      obtain ⟨hlt, rfl⟩ := ints_get e
      refine ⟨trivial, fun s' H' Cc cl fp => ?_⟩
      refine ev_cal GL hr (av_cons (ev_var (d := .ref a.p) 0 rfl (av_cons (ev_var (d := .ref c) 1 rfl (av_nil ⟨⟨⟨b, c, ns⟩, lb.1, on⟩, [], congrArg (fun p => [D.ref p, D.ref c]) lb.2.1.symm, by rw [List.append_nil]; exact List.Perm.refl _, ?_, fun _ _ _ _ z => z.elim⟩)))))
      rintro d η ⟨t, b2, rfl, lf, lw, lb2, rfl⟩
      refine ⟨ts ++ [t], b2, by rw [List.map_append]; rfl, by rw [List.length_append]; rfl, by omega, fun x hx => ?_, lb.trans lb2, List.append_nil _⟩
      rcases List.mem_append.mp hx with hx | hx
      · exact ht x hx
      · rw [List.mem_singleton.mp hx]
        exact ⟨lf, lw⟩
    · rintro acc η L ⟨ts, b, rfl, hlen, _, ht, lb, rfl⟩
      rw [ints_len] at hlen
      have hlen : ts.length = n := by simpa using hlen
      show SVs _ _ [some (.ref a.p), some (.ref c), some (.int (n : Nat)), some (.ref L), none, none] _ _
      refine SVs.perm (η := b.st ++ [(L, .lst (ts.map Tr.d)), (c, .lst (ns.map D.str))]) List.perm_middle ?_
      have R0 : Round 6 ns n ts 0 := ⟨fun t z => (ht t z).2, fun t z => Nat.le_of_eq (leaf_sz (ht t z).1).2, by rw [hlen]; show n ≤ 64; omega, Nat.zero_le _, by rw [szOf_leaves fun t z => (ht t z).1]; omega, fun e => by rw [e] at hlen; simp at hlen; omega⟩
      refine svs_cons (sv_while PassesOwn.never (fun m ρ η => ∃ (ts : List Tr) (b : PenA) (r : Addr) (j : Nat) (v4 v5 : Option D), ρ = [some (.ref a.p), some (.ref c), some (.int (n : Nat)), some (.ref r), v4, v5] ∧ η = b.st ++ [(r, .lst (ts.map Tr.d)), (c, .lst (ns.map D.str))] ∧
          Round 6 ns n ts j ∧ a.later b ∧ m = ts.length) ts.length ⟨ts, b, L, 0, none, none, rfl, rfl, R0, lb, rfl⟩ ?_)
      clear ht hlen lb R0
      rintro m ρ' η' ⟨ts, b, r, j, v4, v5, rfl, rfl, R, lb, rfl⟩
      have tl : ts.length ≤ 120 := by have := R.sz; omega
      refine tv_cmp (nomark _) (ev_callB h1 boot_len (av_cons (ev_var (d := .ref r) 3 rfl (av_nil (cw_lenL (List.mem_append_right _ List.mem_cons_self) (ev_int (opw_gt ⟨_, rfl, fun e => ?_, fun e => ?_⟩)))))))
      · have l2 : 1 < ts.length := by
          have := of_decide_eq_true e
          rw [List.length_map] at this
          omega
        refine svs_cons (sv_as 4 (ev_lst (av_nil ⟨Nat.zero_le _, fun q => ?_⟩)) c_law_flat.nd)
        refine SVs.perm (η := b.st ++ [(q, .lst []), (r, .lst (ts.map Tr.d)), (c, .lst (ns.map D.str))]) List.perm_middle ?_
        refine svs_cons (sv_forI (.nm 5) PassesOwn.never rfl (pg_name c_law_flat.nd rfl (Or.inl rfl)) (iv_rng3 h2 (av_cons (ev_int (av_cons (ev_bin (ev_callB h1 boot_len (av_cons (ev_var (d := .ref r) 3 rfl (av_nil (cw_lenL (List.mem_append_right _ (List.mem_cons_of_mem _ List.mem_cons_self)) (ev_int (opw_sub (av_cons (ev_int (av_nil ⟨0, _, 2, ts.length / 2, rfl, by rw [List.length_map]; exact rgH (by omega) (by omega), ?_⟩))))))))))))))))
        refine ⟨fun i ρ' η' => ∃ (fs : List Tr) (b' : PenA) (v5 : Option D), Pairs ns ts fs j i ∧ a.later b' ∧ ρ' = [some (.ref a.p), some (.ref c), some (.int (n : Nat)), some (.ref r), some (.ref q), v5] ∧ η' = b'.st ++ [(q, .lst (fs.map Tr.d)), (r, .lst (ts.map Tr.d)), (c, .lst (ns.map D.str))], fun _ _ _ _ => trivial,
          ⟨[], b, v5, ⟨rfl, fun t h => absurd h List.not_mem_nil, fun t h => absurd h List.not_mem_nil, rfl⟩, lb, rfl, rfl⟩, ?_, ?_⟩
        · rintro i d ρ' η' ed ⟨fs, b', v5, p, lb', rfl, rfl⟩
          obtain ⟨il, rfl⟩ := intsC_get ed
          rw [show ((0 : Int) + (i : Nat) * 2) = ((2 * i : Nat) : Int) by omega]
          have e1 : ts[2 * i]? = some (ts[2 * i]'(by omega)) := List.getElem?_eq_getElem _
          have e2 : ts[2 * i + 1]? = some (ts[2 * i + 1]'(by omega)) := List.getElem?_eq_getElem _
          refine ⟨trivial, svs_cons (sv_ex (ev_append (ev_var (d := .ref q) 4 rfl ⟨.inl ⟨rfl, _, List.mem_append_right _ List.mem_cons_self⟩, av_cons (ev_tup (av_cons (ev_ix (fun _ _ => rfl) (ev_litL ((["and", "or"] : List Str).map D.str) fun q2 => EV.perm List.perm_middle (ev_draw (a := b') 2 0 G h1r (by rw [lb'.2.1]; rfl) lb'.1 (by decide) (by decide) (ev_int ⟨rfl, rfl⟩) fun w b4 w0 w1 lb4 => ?_)))))⟩)))⟩
          obtain ⟨bit, hbit⟩ : ∃ bit : Bool, atI ((["and", "or"] : List Str).map D.str) w = some (.str (if bit then "and" else "or")) := by
            rcases (show w = 0 ∨ w = 1 by omega) with rfl | rfl
            · exact ⟨true, rfl⟩
            · exact ⟨false, rfl⟩
          have lb4 := lb'.trans lb4
          refine xw_list (List.mem_append_right _ List.mem_cons_self) hbit ?_
          have m3 : ∀ {x y z u : Addr × Mo}, z ∈ b4.st ++ [x, y, z, u] := List.mem_append_right _ (List.mem_cons_of_mem _ (List.mem_cons_of_mem _ List.mem_cons_self))
          refine AV.drop (η := b4.st ++ [(q, .lst (fs.map Tr.d)), (r, .lst (ts.map Tr.d)), (c, .lst (ns.map D.str))]) (List.Sublist.append (List.Sublist.refl _) (List.sublist_cons_self _ _)) ?_
          have m3 : (r, Mo.lst (ts.map Tr.d)) ∈ b4.st ++ [(q, .lst (fs.map Tr.d)), (r, .lst (ts.map Tr.d)), (c, .lst (ns.map D.str))] := List.mem_append_right _ (List.mem_cons_of_mem _ List.mem_cons_self)
          refine av_cons (ev_ix (fun _ _ => rfl) (ev_var (d := .ref r) 3 rfl (ev_var (d := .int ((2 * i : Nat) : Int)) 5 rfl (xw_list m3 (atI_pos (by rw [List.getElem?_map, e1]; rfl)) ?_))))
          refine av_cons (ev_ix (fun _ _ => rfl) (ev_var (d := .ref r) 3 rfl (ev_bin (ev_var (d := .int ((2 * i : Nat) : Int)) 5 rfl (ev_int (opw_add (xw_list m3 (atI_pos (i := 2 * i + 1) (by rw [List.getElem?_map, e2]; rfl)) ?_)))))))
          refine av_nil ⟨by rw [sizeLine_eq]; show 3 ≤ 16777216; decide, av_nil (MtW.nd fun nd => mw_append (List.mem_append_right _ List.mem_cons_self) (by rw [sizeLine_eq, List.length_map, p.il]; omega) ?_)⟩
          rw [putM_in nd]
          exact svs_nil ⟨fs ++ [.bin bit _ _], b4, _, p.next R bit e1 e2, lb4, rfl, by rw [List.map_append]; rfl⟩
        · rintro ρ' η' ⟨fs, b', v5, p, lb', rfl, rfl⟩
          rw [intsC_len] at p
          have fl := p.il
          have nx := R.next p l2
          refine svs_cons (sv_as 3 (hN := c_law_flat.nd) (ev_bin (ev_var (d := .ref q) 4 rfl (ev_sliceL (ev_var (d := .ref r) 3 rfl (ev_bin (ev_int (ev_callB h1 boot_len (av_cons (ev_var (d := .ref q) 4 rfl (av_nil (cw_lenL (List.mem_append_right _ List.mem_cons_self) (opw_mul (.inl ⟨by decide, by decide⟩) ⟨_, rfl, r, _, rfl, List.mem_append_right _ (List.mem_cons_of_mem _ List.mem_cons_self), fun q3 => opw_catL (List.mem_cons_of_mem _ (List.mem_append_right _ List.mem_cons_self)) List.mem_cons_self ?_ fun q4 => ?_⟩)))))))))))))
          · rw [show (2 * ((fs.map Tr.d).length : Int)) = ((2 * fs.length : Nat) : Int) by rw [List.length_map]; omega, cutD_drop, sizeLine_eq, List.length_map, List.length_drop, List.length_map]
            omega
          · rw [show (2 * ((fs.map Tr.d).length : Int)) = ((2 * fs.length : Nat) : Int) by rw [List.length_map]; omega, cutD_drop, ← List.map_drop, ← List.map_append]
            refine SVs.drop (η := (q4, .lst ((fs ++ ts.drop (2 * fs.length)).map Tr.d)) :: (b'.st ++ [(c, .lst (ns.map D.str))])) (List.Sublist.cons_cons _ ((List.Sublist.append (List.Sublist.refl _) ((List.Sublist.refl _).cons _ |>.cons _)).cons _)) (SVs.perm (η := b'.st ++ [(q4, .lst ((fs ++ ts.drop (2 * fs.length)).map Tr.d)), (c, .lst (ns.map D.str))]) List.perm_middle ?_)
            exact svs_nil ⟨_, nx.2, fs ++ ts.drop (2 * fs.length), b', q4, j + 1, _, _, rfl, rfl, nx.1, lb', rfl⟩
      · have l1 : ts.length = 1 := by
          have := of_decide_eq_false e
          rw [List.length_map] at this
          have := List.length_pos_iff.mpr R.ne
          omega
        obtain ⟨t, rfl⟩ := List.length_eq_one_iff.mp l1
        refine svs_cons (sv_ret (ev_tup (av_cons (ev_str (av_cons (ev_ix (fun _ _ => rfl) (ev_var (d := .ref r) 3 rfl (ev_int (xw_list (List.mem_append_right _ List.mem_cons_self) (atI0 (x := t.d) (xs := [])) (av_nil ⟨by rw [sizeLine_eq]; show 2 ≤ 16777216; decide, lose_sub (List.Sublist.append (List.Sublist.refl _) (List.sublist_cons_self _ _)) ⟨.nt t, b, rfl, R.lw t List.mem_cons_self, ?_, ?_, lb, rfl⟩⟩))))))))))
        · have := R.dep t List.mem_cons_self
          have := R.jl
          simp only [Tr.dep]
          omega
        · have := R.sz
          have e : szOf [t] = t.size := by simp [szOf]
          have e2 : [t].length = 1 := rfl
          simp only [Tr.size]
          omega
end
end K85
end Sx

namespace Sx
section
open PySem PySem.Spec PyProof.Rows L2
variable {X : Cx}
theorem cr_reprN (hg : True) : CallR X (.builtin "repr") (fun xs H Q => xs = [.non] ∧ Q (.str "None") H) := by
  intro pins s σ H xs us Q I r h
  obtain ⟨rfl, q⟩ := h
  cases r with
  | cons ru rn =>
    cases rn
    rename_i u
    obtain rfl : u = Value.none := ru
    refine PySem.P.repr_of_none ?_
    exact ⟨.str _, H, I.tok _, ⟨_, rfl⟩, q⟩
variable {y : Sy} {ρ : Rho} {η : Sto} {Q : D → Sto → Prop}
theorem cw_reprN (h : Q (.str "None") η) : CallW y (.builtin "repr") [.non] ρ η Q := fun fp H0 σ H S w Qv o vs av => by
  obtain ⟨x, rfl, ax⟩ := one_of av
  exact wC_of (cr_reprN trivial) ⟨by rw [at_non.mp ax], o _ η _ H h S Kp.refl (at_str.mpr rfl)⟩
end
namespace K85
open PySem PySem.Spec PyProof.Rows L2 TL
open LamX (Tabs TabS TabB ExtN)
def reprO : Option Bool → Str
  | none => "None"
  | some b => if b then "True" else "False"
theorem cw_reprO {y : Sy} {ρ : Rho} {η : Sto} {Q : D → Sto → Prop} {o : Option Bool} (h : Q (.str (reprO o)) η) : CallW y (.builtin "repr") [bD o] ρ η Q := by
  cases o with
  | none => exact cw_reprN h
  | some b => exact cw_reprB h
theorem tells_two {t : Str} (h1 : ∀ c ∈ tl t, c < 0x110000) (h2 : t.length ≤ 100000) : Tells (.list [.str t, .str t]) := by
  have hc := strP_lay h1
  have hw : (PyData.str t).weight ≤ 100000 := by
    simp only [PyData.weight]
    exact h2
  refine tells_of ?_ ?_ ?_ ?_ ?_
  · simp [PyData.canLay0, PyData.canLayAll0, strOk_of h1]
  · simp [PyData.depth, PyData.depthAll]
  · simp only [PyData.weight, PyData.weightAll] at hw ⊢
    omega
  · simp [PyData.intsShort, PyData.intsShortAll]
  · simp [PyData.showable, PyData.showableAll]
theorem str_w {x : Str} {n : Nat} (h : x.length ≤ n) : (PyData.str x).weight ≤ n := by
  simp only [PyData.weight]
  exact h
theorem tr_short {ns : List Str} (on : okN ns) : ∀ {t : Tr}, t.lw ns → t.p.intsShort 13 = true ∧ t.p.showable = true ∧ t.p.weight ≤ 1300 * t.size
  | .always, _ => by decide +kernel
  | .never, _ => by decide +kernel
  | .miss c, h => by
    have hw := str_w (name_len (on.2 c h))
    have e : (PyData.str "missing").weight = 7 := by decide
    refine ⟨by simp [Tr.p, PyData.intsShort, PyData.intsShortAll], by simp [Tr.p, PyData.showable, PyData.showableAll], ?_⟩
    simp only [Tr.p, PyData.weight, PyData.weightAll, Tr.size] at hw e ⊢
    omega
  | .wi c ps, h => by
    have hw := str_w (name_len (on.2 c h.1))
    have e : (PyData.str "within").weight = 6 := by decide
    obtain ⟨a1, a2, a3⟩ := pairs_short h.2.ok
    have := h.2.len
    refine ⟨by simp [Tr.p, PyData.intsShort, PyData.intsShortAll, a1], by simp [Tr.p, PyData.showable, PyData.showableAll, a2], ?_⟩
    simp only [Tr.p, PyData.weight, PyData.weightAll, Tr.size] at hw e ⊢
    omega
  | .nt t, h => by
    obtain ⟨a1, a2, a3⟩ := tr_short on (t := t) h
    have e : (PyData.str "not").weight = 3 := by decide
    refine ⟨by simp [Tr.p, PyData.intsShort, PyData.intsShortAll, a1], by simp [Tr.p, PyData.showable, PyData.showableAll, a2], ?_⟩
    simp only [Tr.p, PyData.weight, PyData.weightAll, Tr.size] at e ⊢
    omega
  | .bin a t u, h => by
    obtain ⟨a1, a2, a3⟩ := tr_short on (t := t) h.1
    obtain ⟨b1, b2, b3⟩ := tr_short on (t := u) h.2
    have e : (PyData.str (if a then "and" else "or")).weight ≤ 3 := by cases a <;> decide
    refine ⟨by simp [Tr.p, PyData.intsShort, PyData.intsShortAll, a1, b1], by simp [Tr.p, PyData.showable, PyData.showableAll, a2, b2], ?_⟩
    simp only [Tr.p, PyData.weight, PyData.weightAll, Tr.size] at e ⊢
    omega
theorem tells_tree {ns : List Str} (on : okN ns) {t : Tr} (h : t.lw ns) (hd : t.dep ≤ 30) (hs : t.size ≤ 121) : Tells (.list [t.p, t.p]) := by
  obtain ⟨a1, a2, a3⟩ := tr_short on h
  have h1 := lay_tr t (h.good on)
  have h2 := depth_tr t
  refine tells_of ?_ ?_ ?_ ?_ ?_
  · simp [PyData.canLay0, PyData.canLayAll0, h1]
  · simp only [PyData.depth, PyData.depthAll]
    omega
  · simp only [PyData.weight, PyData.weightAll]
    omega
  · simp [PyData.intsShort, PyData.intsShortAll, a1]
  · simp [PyData.showable, PyData.showableAll, a2]
theorem ws_low {ns : List Str} (on : okN ns) : ∀ {t : Tr}, t.lw ns → ∀ x ∈ t.ws, x.length ≤ 190 ∧ ∀ c ∈ tl x, c < 0x110000 := by
  have lit : ∀ {w : Str}, (decide (w.length ≤ 190) && (tl w).all (· < 0x110000)) = true → w.length ≤ 190 ∧ ∀ c ∈ tl w, c < 0x110000 := fun h => by
    simp only [Bool.and_eq_true, decide_eq_true_eq, List.all_eq_true] at h
    exact h
  have nm : ∀ {x : Str}, x ∈ ns → x.length ≤ 190 ∧ ∀ c ∈ tl x, c < 0x110000 := fun h => ⟨by have := name_len (on.2 _ h); omega, name_low (on.2 _ h)⟩
  intro t
  induction t with
  | nt t ih =>
    intro h x hx
    rcases List.mem_cons.mp hx with rfl | hx
    · exact lit (by decide +kernel)
    · exact ih h x hx
  | bin a t u ih1 ih2 =>
    intro h x hx
    rcases List.mem_cons.mp hx with rfl | hx
    · exact lit (by cases a <;> decide +kernel)
    · rcases List.mem_append.mp hx with hx | hx
      · exact ih1 h.1 x hx
      · exact ih2 h.2 x hx
  | always =>
    intro h x hx
    rw [List.mem_singleton.mp hx]
    exact lit (by decide +kernel)
  | never =>
    intro h x hx
    rw [List.mem_singleton.mp hx]
    exact lit (by decide +kernel)
  | miss c =>
    intro h x hx
    simp only [Tr.ws, List.mem_cons, List.not_mem_nil, or_false] at hx
    rcases hx with rfl | rfl
    · exact lit (by decide +kernel)
    · exact nm h
  | wi c ps =>
    intro h x hx
    simp only [Tr.ws, List.mem_cons, List.not_mem_nil, or_false] at hx
    rcases hx with rfl | rfl | rfl
    · exact lit (by decide +kernel)
    · exact nm h.1
    · refine ⟨?_, low_parts ps⟩
      have := partsT_small h.2.good.okPs
      have := h.2.len
      omega
theorem text_short {ns : List Str} (on : okN ns) {t : Tr} (h : t.lw ns) (hs : t.size ≤ 121) : t.text.length ≤ 100000 ∧ ∀ c ∈ tl t.text, c < 0x110000 := by
  have h1 := join_len " " t.ws
  have h2 : (t.ws.map (·.length)).sum ≤ 190 * (t.ws.map (·.length)).length := sum_le fun x hx => by
    obtain ⟨z, hz, rfl⟩ := List.mem_map.mp hx
    exact (ws_low on h z hz).1
  have h3 := ws_size t
  have h4 : (((" ") : Str)).length = 1 := by decide
  rw [h4] at h1
  rw [List.length_map] at h2
  refine ⟨by unfold Tr.text; omega, ?_⟩
  unfold Tr.text
  rw [tl_join1]
  refine low_joinL (by decide) fun p hp => ?_
  obtain ⟨x, hx, rfl⟩ := List.mem_map.mp hp
  exact (ws_low on h x hx).2
end K85
end Sx

namespace Sx
namespace K85
open PySem PySem.Spec PyProof.Rows L2 TL
open LamX (Tabs TabS TabB ExtN)
theorem putD_new {vs : List (Str × Option Int)} {c : Str} {o : Option Int} (h : c ∉ vs.map (·.1)) : putD (kvD vs) (Sum.inr c) (endD o) = kvD (vs ++ [(c, o)]) := by
  unfold putD
  have : ((kvD vs).any fun kv => decide (kv.1 = Sum.inr c)) = false := by
    rw [List.any_eq_false]
    intro kv hk
    unfold kvD at hk
    obtain ⟨x, hx, rfl⟩ := List.mem_map.mp hk
    rw [decide_eq_true_eq]
    intro e
    exact h (List.mem_map.mpr ⟨x, hx, Sum.inr.inj e⟩)
  rw [this, if_neg Bool.false_ne_true]
  unfold kvD
  rw [List.map_append]
  rfl
theorem look_all {vs : List (Str × Option Int)} {c : Str} (h : c ∈ vs.map (·.1)) : ∃ o, look vs c = some o := by
  unfold look
  obtain ⟨x, hx, e⟩ := List.mem_map.mp h
  have : (vs.find? fun x => decide (x.1 = c)).isSome = true := by
    rw [List.find?_isSome]
    exact ⟨x, hx, decide_eq_true e⟩
  obtain ⟨y, hy⟩ := Option.isSome_iff_exists.mp this
  rw [hy]
  exact ⟨_, rfl⟩
section
variable {P : Program} {w : World} {K : PySem.W.Frag} {mg : Str → Option Value} {base : Heap} {MC : Addr → Prop} {T : List (Addr × Str)} {f C CR CW ge gc : Addr} {fd : FuncData}
/-- == and () of filters -/
structure EqCall (P : Program) (w : World) (K : PySem.W.Frag) (mg : Str → Option Value) (base : Heap) (MC : Addr → Prop) (T : List (Addr × Str)) (C ge gc : Addr) : Prop where
  nf : PySem.W.notFirst K C (.ref C) = true
  fe : PySem.W.findIn K (.ref C) "__eq__" = some (some (.ref ge))
  ne : PySem.W.isFn K (.ref ge) = true
  oe : FnR P w K mg base CX0 1 ge (spOf ⟨K, MC, T⟩ (F_feq C))
  cl : StX.CallO K C gc
  oc : FnR P w K mg base CX0 33 gc (spOf ⟨K, MC, T⟩ (F_fcall 30 C))
structure RightA where
  x : ColA
  t : Tr
def RightA.ok (r : RightA) : Prop := r.x.a.ok ∧ okN r.x.ns ∧ r.x.ns.Nodup ∧ r.t.lw r.x.ns ∧ r.t.dep ≤ 30 ∧ r.t.size ≤ 121
def F_lright : FS {r : RightA // r.ok} := { args := fun r => [.ref r.1.x.a.p, .ref r.1.x.c, r.1.t.d], st := fun r => r.1.x.st, ret := fun r d η => ∃ b : PenA, d = .bl true ∧ r.1.x.a.later b ∧ η = b.st ++ [(r.1.x.c, .lst (r.1.x.ns.map D.str))] }
theorem k_lright (F : Fun K "_law_right" "_law_right" s_law_right f fd) (bd : Binds K fd ["pen", "columns", "tree"] []) (GF : Cal P w K mg base 136 "_law_filter" ["tree"] (spOf ⟨K, MC, T⟩ (F_lfilter 30 C))) (GW : Cal P w K mg base 32 "_law_words" ["tree"] (spOf ⟨K, MC, T⟩ (F_lwords 30)))
    (GS : Cal P w K mg base 4 "show_filter" ["where"] (spOf ⟨K, MC, T⟩ (F_showf C))) (GSk : CalK P w K mg base 4 "show_filter" 0 ["where"] ["where"] (spOf ⟨K, MC, T⟩ (F_showf C))) (GR : Cal P w K mg base 109 "read_filter" ["text"] (spOf ⟨K, MC, T⟩ (F_readf C))) (GRk : CalK P w K mg base 109 "read_filter" 0 ["text"] ["text"] (spOf ⟨K, MC, T⟩ (F_readf C)))
    (GD : Cal P w K mg base 1 "_law_draw" ["pen", "many"] (spOf ⟨K, MC, T⟩ F_draw)) (GB : Cal P w K mg base 2 "_law_bound" ["pen"] (spOf ⟨K, MC, T⟩ F_bound)) (E2 : EqCall P w K mg base MC T C ge gc) (hc : Cls K C) (hn : NoAttr K C "tree") (h1 : mg "repr" = none) (h2 : mg "range" = none) : OkG P w K mg base 137 f (spOf ⟨K, MC, T⟩ F_lright) :=
  okG_of _ F c_law_right (fun _ => rfl) bd fun r cdv A outer s H E hg hr => by
    obtain ⟨⟨⟨a, c, ns⟩, t⟩, ok, on, nd, lw, dp, sz⟩ := r
    have ok : a.ok := ok
    have on : okN ns := on
    have nd : ns.Nodup := nd
    have lw : t.lw ns := lw
    have dp : t.dep ≤ 30 := dp
    have sz : t.size ≤ 121 := sz
    have gd : t.good := lw.good on
    have wl := ws_size t
    have okr : okR t := ⟨gd, by omega, by omega, by omega⟩
    have sz1 : ∀ {k : Nat}, k ≤ 1000 → k ≤ sizeLine := fun h => by rw [sizeLine_eq]; omega
    obtain ⟨tx1, tx2⟩ := text_short on lw sz
    have tt := tells_two tx2 tx1
    have tp := tells_tree on lw dp sz
    have hr1 : Room 1 (A.deeper (envOfC "_law_right" (defScope s_law_right) s.heap.objs.size f cdv)) := hr.mono (by decide)
    have nil1 : ∀ {η : Sto}, η.Perm ([] ++ η) := List.Perm.refl _
    show SVs _ _ [some (.ref a.p), some (.ref c), some t.d, none, none, none, none, none, none] (a.st ++ [(c, .lst (ns.map D.str))]) _
    refine svs_cons (sv_as 3 (hN := c_law_right.nd) (ev_cal0 GF hr (av_cons (ev_var (d := t.d) 2 rfl (av_nil ⟨⟨t, dp, by omega, ns, lw⟩, rfl, rfl, ?_, fun _ _ _ _ z => z⟩)))))
    rintro d η' ⟨rfl, rfl⟩
    rw [List.nil_append]
    have lj := join_len " " t.ws
    have ws1 := ws_sum gd (by omega)
    refine svs_cons (sv_as 4 (hN := c_law_right.nd) (ev_join (ev_str ⟨rfl, av_cons (ev_cal0 GW (hr.mono (by decide)) (av_cons (ev_var (d := t.d) 2 rfl (av_nil ⟨⟨t, dp, by omega, gd⟩, rfl, rfl, ?_, fun _ _ _ _ z => z⟩))))⟩)))
    rintro d η' ⟨q, rfl, rfl⟩
    refine av_nil (mw_join List.mem_cons_self ?_ ?_)
    · have : ((" ") : Str).length = 1 := by decide
      rw [this]
      show (t.ws.map (·.length)).sum + t.ws.length * 1 ≤ _
      omega
    refine SVs.drop (List.sublist_append_right _ _) ?_
    show SVs _ _ [some (.ref a.p), some (.ref c), some t.d, some (filD C t), some (.str t.text), none, none, none, none] (a.st ++ [(c, .lst (ns.map D.str))]) _
    refine svs_cons (sv_ifC (TV.mono (QB := fun b η => b = false ∧ (a.st ++ [(c, Mo.lst (ns.map D.str))]).Sublist η) (tv_cmp (nomark _) ?_) ?_))
    · refine ev_callB h1 boot_repr (av_cons (ev_lst (av_cons (ev_cal0 GS (hr.mono (by decide)) (av_cons (ev_var (d := filD C t) 3 rfl (av_nil ⟨⟨t, gd, by omega⟩, rfl, rfl, ?_, fun _ _ _ _ z => z⟩)))))))
      rintro d η' ⟨rfl, rfl⟩
      refine av_cons (ev_calK0 GSk (hr.mono (by decide)) (ev_var (d := filD C t) 3 rfl ⟨⟨t, gd, by omega⟩, rfl, rfl, ?_, fun _ _ _ _ z => z⟩))
      rintro d η' ⟨rfl, rfl⟩
      refine av_nil ⟨sz1 (k := 2) (by decide), fun p => av_nil (cw_repr (d := .list [.str t.text, .str t.text]) hg hr (.lst List.mem_cons_self (.cons (.str _) (.cons (.str _) .nil))) tt.sh tt.nd tt.dp tt.sz ?_)⟩
      refine ev_callB h1 boot_repr (av_cons (ev_bin (ev_lst (av_cons (ev_var (d := .str t.text) 4 rfl (av_nil ⟨sz1 (k := 1) (by decide), fun p2 => ev_int (opw_repL List.mem_cons_self (by decide) (by decide) (sz1 (k := 2) (by decide)) fun p3 => av_nil (cw_repr (d := .list [.str t.text, .str t.text]) hg hr (.lst List.mem_cons_self (.cons (.str _) (.cons (.str _) .nil))) tt.sh tt.nd tt.dp tt.sz (opw_neS ⟨_, rfl, by simp, ?_⟩)))⟩))))))
      exact (((List.Sublist.refl _).cons _).cons _).cons _
    rintro b η ⟨rfl, sl⟩
    refine ⟨(fun z => nomatch z), fun _ => SVs.drop sl (svs_nil ?_)⟩
    refine svs_cons (sv_as 5 (hN := c_law_right.nd) (ev_cal0 GR (hr.mono (by decide)) (av_cons (ev_var (d := .str t.text) 4 rfl (av_nil ⟨⟨t, okr⟩, rfl, rfl, ?_, fun _ _ _ _ z => z⟩)))))
    rintro d η' ⟨rfl, rfl⟩
    rw [List.nil_append]
    show SVs _ _ [some (.ref a.p), some (.ref c), some t.d, some (filD C t), some (.str t.text), some (filD C t), none, none, none] (a.st ++ [(c, .lst (ns.map D.str))]) _
    refine svs_cons (sv_ifC (TV.mono (QB := fun b η => b = false ∧ (a.st ++ [(c, Mo.lst (ns.map D.str))]).Sublist η) ?_ ?_))
    · refine tv_w (tv_orC (tv_cmp (nomark _) ?_))
      refine ev_callB h1 boot_repr (av_cons (ev_lst (av_cons (ev_fld (ev_var (d := filD C t) 5 rfl ⟨C, _, t.d, rfl, hc, hn, rfl, av_cons (ev_fld (ev_calK0 GRk (hr.mono (by decide)) (ev_var (d := .str t.text) 4 rfl ⟨⟨t, okr⟩, rfl, rfl, ?_, fun _ _ _ _ z => z⟩)))⟩)))))
      rintro d η' ⟨rfl, rfl⟩
      refine ⟨C, _, t.d, rfl, hc, hn, rfl, av_nil ⟨sz1 (k := 2) (by decide), fun p => av_nil (cw_repr (d := .list [t.p, t.p]) hg hr (.lst List.mem_cons_self (.cons (pd_tr t) (.cons (pd_tr t) .nil))) tp.sh tp.nd tp.dp tp.sz ?_)⟩⟩
      refine ev_callB h1 boot_repr (av_cons (ev_bin (ev_lst (av_cons (ev_var (d := t.d) 2 rfl (av_nil ⟨sz1 (k := 1) (by decide), fun p2 => ev_int (opw_repL List.mem_cons_self (by decide) (by decide) (sz1 (k := 2) (by decide)) fun p3 => av_nil (cw_repr (d := .list [t.p, t.p]) hg hr (.lst List.mem_cons_self (.cons (pd_tr t) (.cons (pd_tr t) .nil))) tp.sh tp.nd tp.dp tp.sz (opw_neS ⟨_, rfl, fun _ => ?_, fun z => absurd z (by simp)⟩)))⟩))))))
      refine wv_or1 (tv_not (tv_cmp (nomark _) (ev_var (d := filD C t) 5 rfl (ev_var (d := filD C t) 3 rfl (opw_own (op_ownC (fun _ _ => rfl) E2.nf E2.fe E2.ne E2.oe hr1 pas0) ⟨⟨t, gd, by omega⟩, _, rfl, nil1, ?_, fun _ _ _ _ z => z.elim⟩)))))
      rintro d η' ⟨rfl, rfl⟩
      exact ⟨_, rfl, rfl, (((List.Sublist.refl _).cons _).cons _).cons _⟩
    rintro b η ⟨rfl, sl⟩
    refine ⟨(fun z => nomatch z), fun _ => SVs.drop sl (svs_nil ?_)⟩
    have hu := hu_of hr
    have hr33 : Room 33 (A.deeper (envOfC "_law_right" (defScope s_law_right) s.heap.objs.size f cdv)) := hr.mono (by decide)
    refine svs_cons (sv_forI (.nm 6) PassesOwn.never rfl (pg_name c_law_right.nd rfl (Or.inl rfl)) (iv_rng1 h2 (av_cons (ev_int (av_nil ⟨4, rfl, by decide, by decide, ?_⟩)))))
    refine ⟨fun i ρ' η' => ∃ (b : PenA) (v6 v7 v8 : Option D), a.later b ∧ ρ' = [some (.ref a.p), some (.ref c), some t.d, some (filD C t), some (.str t.text), some (filD C t), v6, v7, v8] ∧ η' = b.st ++ [(c, .lst (ns.map D.str))], fun _ _ _ _ => trivial, ⟨a, none, none, none, PenA.later.refl ok, rfl, rfl⟩, ?_, ?_⟩
    · rintro i d ρ' η' ed ⟨b, v6, v7, v8, lb, rfl, rfl⟩
      refine ⟨trivial, svs_cons (sv_as 7 (ev_dict0 fun p => ?_) c_law_right.nd)⟩
      refine SVs.perm (η := b.st ++ [(p, .dic (kvD [])), (c, .lst (ns.map D.str))]) List.perm_middle ?_
      show SVs _ _ [some (.ref a.p), some (.ref c), some t.d, some (filD C t), some (.str t.text), some (filD C t), some d, some (.ref p), v8] _ _
      refine svs_cons (sv_forI (.nm 8) PassesOwn.never rfl (pg_name c_law_right.nd rfl (Or.inl rfl)) (iv_list (ev_var (d := .ref c) 1 rfl ⟨c, _, rfl, List.mem_append_right _ (List.mem_cons_of_mem _ List.mem_cons_self), ?_⟩)))
      refine ⟨fun i ρ' η' => ∃ (b : PenA) (vs : List (Str × Option Int)) (v8 : Option D), a.later b ∧ vs.map (·.1) = ns.take i ∧ ρ' = [some (.ref a.p), some (.ref c), some t.d, some (filD C t), some (.str t.text), some (filD C t), some d, some (.ref p), v8] ∧ η' = b.st ++ [(p, .dic (kvD vs)), (c, .lst (ns.map D.str))], ?_, ⟨b, [], v8, lb, by simp, rfl, rfl⟩, ?_, ?_⟩
      · rintro i ρ' η' ⟨b, vs, v8, _, _, _, rfl⟩
        exact List.mem_append_right _ (List.mem_cons_of_mem _ List.mem_cons_self)
      · rintro i d2 ρ' η' ed2 ⟨b, vs, v8, lb, ev, rfl, rfl⟩
        rw [List.getElem?_map, Option.map_eq_some_iff] at ed2
        obtain ⟨x, ex, rfl⟩ := ed2
        have xi : x ∉ vs.map (·.1) := by
          rw [ev]
          intro hx
          obtain ⟨k, hk, e⟩ := List.mem_iff_getElem.mp hx
          rw [List.length_take] at hk
          rw [List.getElem_take] at e
          obtain ⟨hi, e2⟩ := List.getElem?_eq_some_iff.mp ex
          exact List.pairwise_iff_getElem.mp nd k i (by omega) hi (by omega) (e.trans e2.symm)
        have vl : vs.length ≤ 20 := by
          have := congrArg List.length ev
          rw [List.length_map, List.length_take] at this
          have := on.1
          omega
        refine ⟨trivial, SVs.nd fun _ => svs_cons (sv_dput hu (EV.mono (Q := fun d η => ∃ (o : Option Int) (b' : PenA), d = endD o ∧ a.later b' ∧ η = b'.st ++ [(p, .dic (kvD vs)), (c, .lst (ns.map D.str))]) ?_ ?_) (swaps_no rfl))⟩
        · refine ev_ifC (tv_cmp (nomark _) (ev_draw (a := b) 4 0 GD hr1 (by rw [lb.2.1]; rfl) lb.1 (by decide) (by decide) (ev_int ⟨rfl, rfl⟩) fun v b' v0 v1 lb' => ev_int (opw_eqI ⟨_, rfl, fun _ => ev_non ⟨none, b', rfl, lb.trans lb', rfl⟩, fun _ => ?_⟩)))
          have lb2 := lb.trans lb'
          refine ev_cal GB (hr.mono (by decide)) (av_cons (ev_var (d := .ref a.p) 0 rfl (av_nil ⟨⟨b', lb2.1⟩, _, congrArg (fun p => [D.ref p]) lb2.2.1.symm, List.Perm.refl _, ?_, fun _ _ _ _ z => z.elim⟩)))
          rintro d η' ⟨v, b3, rfl, _, lb3, rfl⟩
          exact ⟨some v, b3, rfl, lb2.trans lb3, rfl⟩
        · rintro d3 η ⟨o, b', rfl, lb', rfl⟩
          refine EV.nd fun nd2 => ev_var (d := .ref p) 7 rfl (ev_var (d := .str x) 8 rfl ⟨p, kvD vs, Sum.inr x, rfl, List.mem_append_right _ List.mem_cons_self, .str x, ?_, ?_⟩)
          · show (kvD vs).length < _
            unfold kvD
            rw [sizeLine_eq, List.length_map]
            omega
          · rw [putD_new xi, putM_in nd2]
            refine svs_nil ⟨b', vs ++ [(x, o)], _, lb', ?_, rfl, rfl⟩
            rw [List.map_append, ev, List.take_add_one, ex]
            rfl
      · rintro ρ' η' ⟨b, vs, v8, lb, ev, rfl, rfl⟩
        rw [List.length_map, List.take_length] at ev
        have lk : ∀ c ∈ t.cols, ∃ o, look vs c = some o := fun c hc => look_all (by rw [ev]; exact lw.cols c hc)
        refine svs_cons (sv_ifC (tv_cmp (nomark _) (ev_callB h1 boot_repr (av_cons (ev_callO E2.cl E2.oc hr33 (ev_var (d := filD C t) 5 rfl ⟨rfl, av_cons (ev_var (d := .ref p) 7 rfl (av_nil ⟨⟨⟨t, p, vs⟩, dp, lw.small, lk⟩, b.st ++ [(c, .lst (ns.map D.str))], rfl, List.perm_middle, ?_, fun _ _ _ _ z => z.elim⟩))⟩))))))
        rintro d2 η' ⟨rfl, rfl⟩
        refine av_nil (cw_reprO ?_)
        refine ev_callB h1 boot_repr (av_cons (ev_callO E2.cl E2.oc hr33 (ev_var (d := filD C t) 3 rfl ⟨rfl, av_cons (ev_var (d := .ref p) 7 rfl (av_nil ⟨⟨⟨t, p, vs⟩, dp, lw.small, lk⟩, b.st ++ [(c, .lst (ns.map D.str))], rfl, List.Perm.refl _, ?_, fun _ _ _ _ z => z.elim⟩))⟩)))
        rintro d2 η' ⟨rfl, rfl⟩
        refine av_nil (cw_reprO (opw_neS ⟨_, rfl, fun z => absurd z (by simp), fun _ => ?_⟩))
        exact SVs.drop (List.sublist_cons_self _ _) (svs_nil (svs_nil ⟨b, _, _, _, lb, rfl, rfl⟩))
    · rintro ρ' η' ⟨b, v6, v7, v8, lb, rfl, rfl⟩
      exact svs_cons (sv_ret (ev_bl (lose_id ⟨b, rfl, lb, rfl⟩)))
end
end K85
end Sx

namespace Sx
namespace K85
open PySem PySem.Spec PyProof.Rows L2 TL
open LamX (Tabs TabS TabB ExtN)
def leafB (l : Bool) : Tr := if l then .always else .never
/-- signs around a tree, the outermost first -/
def wrap : List (Option (Bool × Bool)) → Tr → Tr
  | [], t => t
  | none :: r, t => .nt (wrap r t)
  | some (a, l) :: r, t => .bin a (leafB l) (wrap r t)
def wrapW : Option (Bool × Bool) → List Str
  | none => ["~"]
  | some (a, l) => [sgn a, if l then "always" else "never"]
theorem leafB_ws (l : Bool) : (leafB l).ws = ([if l then "always" else "never"] : List Str) := by cases l <;> rfl
theorem leafB_ok (l : Bool) : (leafB l).good ∧ (leafB l).dep = 0 ∧ (leafB l).size = 1 := by cases l <;> exact ⟨trivial, rfl, rfl⟩
theorem wrap_ws : ∀ (cs : List (Option (Bool × Bool))) (t : Tr), (wrap cs t).ws = cs.flatMap wrapW ++ t.ws
  | [], t => rfl
  | none :: r, t => by simp [wrap, Tr.ws, wrapW, wrap_ws r t]
  | some (a, l) :: r, t => by simp [wrap, Tr.ws, wrapW, wrap_ws r t, leafB_ws]
theorem wrap_ok : ∀ (cs : List (Option (Bool × Bool))) (t : Tr), t.good → (wrap cs t).good ∧ (wrap cs t).dep ≤ cs.length + t.dep ∧ (wrap cs t).size ≤ 2 * cs.length + t.size ∧ (cs.flatMap wrapW).length ≤ 2 * cs.length
  | [], t, h => ⟨h, by simp [wrap], by simp [wrap], by simp⟩
  | none :: r, t, h => by
    obtain ⟨h1, h2, h3, h4⟩ := wrap_ok r t h
    refine ⟨h1, ?_, ?_, ?_⟩ <;> simp only [wrap, Tr.dep, Tr.size, List.length_cons, List.flatMap_cons, List.length_append, wrapW, List.length_nil] <;> omega
  | some (a, l) :: r, t, h => by
    obtain ⟨h1, h2, h3, h4⟩ := wrap_ok r t h
    obtain ⟨l1, l2, l3⟩ := leafB_ok l
    refine ⟨⟨l1, h1⟩, ?_, ?_, ?_⟩ <;> simp only [wrap, Tr.dep, Tr.size, List.length_cons, List.flatMap_cons, List.length_append, wrapW, List.length_nil] <;> omega
section
variable {P : Program} {w : World} {K : PySem.W.Frag} {mg : Str → Option Value} {base : Heap} {MC : Addr → Prop} {T : List (Addr × Str)} {f C CW : Addr} {fd : FuncData}
def F_ldeep : FS {x : PenA × Nat // x.1.ok ∧ x.2 ≤ 100} := { args := fun x => [.ref x.1.1.p, .int (x.1.2 : Nat)], st := fun x => x.1.1.st, ret := fun x d η => ∃ (q : Addr) (t : Tr) (b : PenA), d = .ref q ∧ okR t ∧ x.1.1.later b ∧ η = b.st ++ [(q, .lst (t.ws.map D.str))] }
theorem k_ldeep (F : Fun K "_law_deep" "_law_deep" s_law_deep f fd) (G : Cal P w K mg base 1 "_law_draw" ["pen", "many"] (spOf ⟨K, MC, T⟩ F_draw)) (h2 : mg "range" = none) : FnOk P w K mg base CX0 2 f fd ["pen", "many"] (spOf ⟨K, MC, T⟩ F_ldeep) :=
  ok_of _ F c_law_deep (fun _ => rfl) fun a cdv A outer s H E hr => by
    obtain ⟨⟨a, n⟩, ok, nl⟩ := a
    have ok : a.ok := ok
    have nl : n ≤ 100 := nl
    show SVs _ _ [some (.ref a.p), some (.int (n : Nat)), none, none, none] a.st _
    refine svs_cons (sv_as 2 (ev_lst (av_nil ⟨Nat.zero_le _, fun q => ?_⟩)) c_law_deep.nd)
    refine SVs.perm (η := a.st ++ [(q, .lst [])]) List.perm_append_comm ?_
    refine svs_cons (sv_forI (.nm 3) PassesOwn.never rfl (pg_name c_law_deep.nd rfl (Or.inl rfl)) (iv_rng1 h2 (av_cons (ev_var (d := .int (n : Nat)) 1 rfl (av_nil ⟨n, rfl, by omega, by omega, ?_⟩)))))
    refine ⟨fun i ρ' η' => ∃ (cs : List (Option (Bool × Bool))) (b : PenA) (v3 v4 : Option D), cs.length = i ∧ a.later b ∧ ρ' = [some (.ref a.p), some (.int (n : Nat)), some (.ref q), v3, v4] ∧ η' = b.st ++ [(q, .lst ((cs.flatMap wrapW).map D.str))], fun _ _ _ _ => trivial, ⟨[], a, none, none, rfl, PenA.later.refl ok, rfl, rfl⟩, ?_, ?_⟩
    · rintro i d ρ' η' ed ⟨cs, b, v3, v4, il, lb, rfl, rfl⟩
      obtain ⟨ii, rfl⟩ := ints_get ed
      have ii : i < n := by omega
      have wl := (wrap_ok cs .never trivial).2.2.2
      refine ⟨trivial, svs_cons (sv_as 4 (hN := c_law_deep.nd) (ev_ix (fun _ _ => rfl) (ev_litL ((["~", "&", "|"] : List Str).map D.str) fun q2 => EV.perm List.perm_middle (ev_draw (a := b) 3 0 G hr (by rw [lb.2.1]; rfl) lb.1 (by decide) (by decide) (ev_int ⟨rfl, rfl⟩) fun w b2 w0 w1 lb2 => ?_))))⟩
      have lb2 := lb.trans lb2
      obtain ⟨o, ho⟩ : ∃ o : Option Bool, atI ((["~", "&", "|"] : List Str).map D.str) w = some (.str (match o with | none => "~" | some a => sgn a)) := by
        rcases (show w = 0 ∨ w = 1 ∨ w = 2 by omega) with rfl | rfl | rfl
        · exact ⟨none, rfl⟩
        · exact ⟨some true, rfl⟩
        · exact ⟨some false, rfl⟩
      refine xw_list (List.mem_append_right _ List.mem_cons_self) ho ?_
      refine SVs.drop (η := b2.st ++ [(q, .lst ((cs.flatMap wrapW).map D.str))]) (List.Sublist.append (List.Sublist.refl _) (List.sublist_cons_self _ _)) ?_
      cases o with
      | none =>
        show SVs _ _ [some (.ref a.p), some (.int (n : Nat)), some (.ref q), _, some (.str "~")] _ _
        refine SVs.nd fun nd => svs_cons (sv_ex (ev_append (ev_var (d := .ref q) 2 rfl ⟨.inl ⟨rfl, _, List.mem_append_right _ List.mem_cons_self⟩, av_cons (ev_var (d := .str "~") 4 rfl (av_nil (mw_append (List.mem_append_right _ List.mem_cons_self) (by rw [sizeLine_eq, List.length_map]; omega) ?_)))⟩)))
        rw [putM_in nd]
        refine svs_cons (sv_ifC (tv_cmp (nomark _) (ev_var (d := .str "~") 4 rfl (ev_str (opw_neS ⟨_, rfl, fun z => absurd z (by decide +kernel), fun _ => svs_nil ?_⟩)))))
        refine svs_nil ⟨cs ++ [none], b2, _, _, by rw [List.length_append, il]; rfl, lb2, rfl, ?_⟩
        simp [wrapW]
      | some g =>
        show SVs _ _ [some (.ref a.p), some (.int (n : Nat)), some (.ref q), _, some (.str (sgn g))] _ _
        refine SVs.nd fun nd => svs_cons (sv_ex (ev_append (ev_var (d := .ref q) 2 rfl ⟨.inl ⟨rfl, _, List.mem_append_right _ List.mem_cons_self⟩, av_cons (ev_var (d := .str (sgn g)) 4 rfl (av_nil (mw_append (List.mem_append_right _ List.mem_cons_self) (by rw [sizeLine_eq, List.length_map]; omega) ?_)))⟩)))
        rw [putM_in nd]
        refine svs_cons (sv_ifC (tv_cmp (nomark _) (ev_var (d := .str (sgn g)) 4 rfl (ev_str (opw_neS ⟨_, rfl, fun _ => ?_, fun z => absurd z (by cases g <;> decide +kernel)⟩)))))
        refine svs_cons (sv_ex (ev_append (ev_var (d := .ref q) 2 rfl ⟨.inl ⟨rfl, _, List.mem_append_right _ List.mem_cons_self⟩, av_cons (ev_ix (fun _ _ => rfl) (ev_litL ((["always", "never"] : List Str).map D.str) fun q2 => EV.perm List.perm_middle (ev_draw (a := b2) 2 0 G hr (by rw [lb2.2.1]; rfl) lb2.1 (by decide) (by decide) (ev_int ⟨rfl, rfl⟩) fun w b3 w0 w1 lb3 => ?_)))⟩)))
        have lb3 := lb2.trans lb3
        obtain ⟨l, hl⟩ : ∃ l : Bool, atI ((["always", "never"] : List Str).map D.str) w = some (.str (if l then "always" else "never")) := by
          rcases (show w = 0 ∨ w = 1 by omega) with rfl | rfl
          · exact ⟨true, rfl⟩
          · exact ⟨false, rfl⟩
        refine xw_list (List.mem_append_right _ List.mem_cons_self) hl ?_
        refine AV.drop (List.Sublist.append (List.Sublist.refl _) (List.sublist_cons_self _ _)) (av_nil (MtW.nd fun nd2 => mw_append (List.mem_append_right _ List.mem_cons_self) (by rw [sizeLine_eq, List.length_append, List.length_map]; show _ + 1 < _; omega) ?_))
        rw [putM_in nd2]
        refine svs_nil (svs_nil ⟨cs ++ [some (g, l)], b3, _, _, by rw [List.length_append, il]; rfl, lb3, rfl, ?_⟩)
        simp [wrapW]
    · rintro ρ' η' ⟨cs, b, v3, v4, il, lb, rfl, rfl⟩
      rw [ints_len] at il
      have cl : cs.length = n := by simpa using il
      obtain ⟨g1, g2, g3, g4⟩ := wrap_ok cs .never trivial
      have e := wrap_ws cs .never
      have e2 : (wrap cs .never).ws.length ≤ 400 := by
        rw [e, List.length_append]
        show _ + 1 ≤ _
        omega
      have d0 : (Tr.never).dep = 0 := rfl
      have s0 : (Tr.never).size = 1 := rfl
      refine svs_cons (sv_ret (ev_bin (ev_var (d := .ref q) 2 rfl (ev_litL ((["never"] : List Str).map D.str) fun q2 => opw_catL (List.mem_cons_of_mem _ (List.mem_append_right _ List.mem_cons_self)) List.mem_cons_self (by rw [sizeLine_eq, List.length_map]; show _ + 1 ≤ _; omega) fun q3 => ?_))))
      rw [← List.map_append, show cs.flatMap wrapW ++ (["never"] : List Str) = (wrap cs .never).ws from e.symm]
      refine ⟨b.st ++ [(q3, .lst ((wrap cs .never).ws.map D.str))], ?_, ?_, ⟨q3, wrap cs .never, b, rfl, ⟨g1, by omega, by omega, e2⟩, lb, rfl⟩⟩
      · intro x hx
        rcases List.mem_append.mp hx with hx | hx
        · exact List.mem_cons_of_mem _ (List.mem_cons_of_mem _ (List.mem_append_left _ hx))
        · rw [List.mem_singleton.mp hx]
          exact List.mem_cons_self
      · intro nd
        have sl : ((q3, Mo.lst ((wrap cs .never).ws.map D.str)) :: b.st).Sublist ((q3, Mo.lst ((wrap cs .never).ws.map D.str)) :: (q2, Mo.lst ((["never"] : List Str).map D.str)) :: (b.st ++ [(q, Mo.lst ((cs.flatMap wrapW).map D.str))])) := ((List.sublist_append_left _ _).cons _).cons_cons _
        exact ((List.perm_append_comm (l₁ := b.st)).map _).nodup_iff.mpr ((sl.map _).nodup nd)
end
end K85
end Sx

namespace Sx
namespace K85
open PySem PySem.Spec PyProof.Rows L2 TL
open LamX (Tabs TabS TabB ExtN)
theorem ws_plain : ∀ {t : Tr}, t.lw [] → t.ws.length = t.size
  | .always, _ => rfl
  | .never, _ => rfl
  | .miss c, h => absurd h List.not_mem_nil
  | .wi c ps, h => absurd h.1 List.not_mem_nil
  | .nt t, h => by simp only [Tr.ws, Tr.size, List.length_cons, ws_plain (t := t) h]
  | .bin a t u, h => by simp only [Tr.ws, Tr.size, List.length_cons, List.length_append, ws_plain (t := t) h.1, ws_plain (t := u) h.2]
theorem okN_nil : okN [] := ⟨Nat.zero_le _, fun x h => absurd h List.not_mem_nil⟩
/-- rows of words, each a list of its own -/
abbrev Rw : Type := Addr × Tr
def Rw.mo (x : Rw) : Addr × Mo := (x.1, .lst (x.2.ws.map D.str))
def refs (rs : List Rw) : List D := rs.map fun x => D.ref x.1
def trs (rs : List Rw) : List Tr := rs.map (·.2)
theorem split_word (l : Bool) : Txt.split (if l then ("always" : Str) else "never") " " = [if l then ("always" : Str) else "never"] := by cases l <;> decide +kernel
section
variable {P : Program} {w : World} {K : PySem.W.Frag} {mg : Str → Option Value} {base : Heap} {MC : Addr → Prop} {T : List (Addr × Str)} {f C CW : Addr} {fd : FuncData}
def F_llong : FS {x : PenA // x.ok} := { args := fun x => [.ref x.1.p], st := fun x => x.1.st, ret := fun x d η => ∃ (q : Addr) (t : Tr) (b : PenA), d = .ref q ∧ okR t ∧ x.1.later b ∧ η = b.st ++ [(q, .lst (t.ws.map D.str))] }
theorem k_llong (F : Fun K "_law_long" "_law_long" s_law_long f fd) (G : Cal P w K mg base 1 "_law_draw" ["pen", "many"] (spOf ⟨K, MC, T⟩ F_draw)) (h1 : mg "len" = none) (h2 : mg "range" = none) : FnOk P w K mg base CX0 2 f fd ["pen"] (spOf ⟨K, MC, T⟩ F_llong) :=
  ok_of _ F c_law_long (fun _ => rfl) fun a cdv A outer s H E hr => by
    obtain ⟨a, ok⟩ := a
    have ok : a.ok := ok
    show SVs _ _ [some (.ref a.p), none, none, none] (a.st ++ []) _
    refine svs_cons (sv_setLc (own := [("k", 3)]) 1 (.nm 3) rfl c_law_long.nd rfl rfl (sw_true rfl rfl rfl (by decide +kernel)) (blkOk_by (N := n_law_long) (sc := defScope s_law_long) (by decide +kernel)) (fun _ _ _ _ _ => pg_name c_law_long.nd rfl (Or.inl rfl) (Or.inr rfl)) (by decide) ?_)
    refine iv_rng1 h2 (av_cons (ev_int (av_nil ⟨200, rfl, by decide, by decide, ?_⟩)))
    refine ⟨fun i acc η => ∃ (rs : List Rw) (b : PenA) (ηr : Sto), acc = refs rs ∧ rs.length = i ∧ i ≤ 200 ∧ (∀ x ∈ rs, x.2.isLeaf = true ∧ x.2.lw [] ∧ Rw.mo x ∈ ηr) ∧ a.later b ∧ η.Perm (b.st ++ ηr), ?_, ⟨[], a, [], rfl, rfl, Nat.zero_le _, fun u hu => absurd hu List.not_mem_nil, PenA.later.refl ok, List.Perm.refl _⟩, ?_, ?_⟩
    · rintro i acc η ⟨rs, b, ηr, rfl, rfl, hi, _⟩
      refine ⟨trivial, ?_⟩
      unfold refs
      rw [List.length_map, sizeLine_eq]
      omega
    · rintro i d acc η e ⟨rs, b, ηr, rfl, rfl, hi, ht, lb, pm⟩
      obtain ⟨hlt, rfl⟩ := ints_get e
      have hlt : rs.length < 200 := hlt
      refine ⟨trivial, fun s' H' Cc cl fp => ?_⟩
      refine EV.perm pm.symm ?_
      refine ev_split (ev_ix (fun _ _ => rfl) (ev_litL ((["always", "never"] : List Str).map D.str) fun q2 => EV.perm List.perm_middle (ev_draw (a := b) 2 0 G hr (by rw [lb.2.1]; rfl) lb.1 (by decide) (by decide) (ev_int ⟨rfl, rfl⟩) fun w b3 w0 w1 lb3 => ?_)))
      obtain ⟨l, hl⟩ : ∃ l : Bool, atI ((["always", "never"] : List Str).map D.str) w = some (.str (if l then "always" else "never")) := by
        rcases (show w = 0 ∨ w = 1 by omega) with rfl | rfl
        · exact ⟨true, rfl⟩
        · exact ⟨false, rfl⟩
      refine xw_list (List.mem_append_right _ List.mem_cons_self) hl ⟨rfl, av_cons (ev_str (av_nil (mw_split (by decide) (by rw [sizeLine_eq]; cases l <;> decide) fun p => ?_)))⟩
      rw [split_word]
      refine ⟨rs ++ [(p, leafB l)], b3, (p, .lst (([if l then ("always" : Str) else "never"]).map D.str)) :: (q2, _) :: ηr, by unfold refs; rw [List.map_append]; rfl, by rw [List.length_append]; rfl, by omega, ?_, lb.trans lb3, List.perm_middle.symm⟩
      intro x hx
      rcases List.mem_append.mp hx with hx | hx
      · exact ⟨(ht x hx).1, (ht x hx).2.1, List.mem_cons_of_mem _ (List.mem_cons_of_mem _ (ht x hx).2.2)⟩
      · rw [List.mem_singleton.mp hx]
        refine ⟨by cases l <;> rfl, by cases l <;> trivial, ?_⟩
        unfold Rw.mo
        rw [leafB_ws]
        exact List.mem_cons_self
    · rintro acc η L ⟨rs, b, ηr, rfl, hlen, _, ht, lb, pm⟩
      rw [ints_len] at hlen
      have hlen : rs.length = 200 := hlen
      show SVs _ _ [some (.ref a.p), some (.ref L), none, none] _ _
      refine SVs.perm (η := b.st ++ (L, .lst (refs rs)) :: ηr) (List.perm_middle.trans (pm.symm.cons _)) ?_
      have R0 : Round 8 [] 200 (trs rs) 0 := ⟨fun t z => by
          obtain ⟨x, hx, rfl⟩ := List.mem_map.mp z
          exact (ht x hx).2.1, fun t z => by
          obtain ⟨x, hx, rfl⟩ := List.mem_map.mp z
          exact Nat.le_of_eq (leaf_sz (ht x hx).1).2, by unfold trs; rw [List.length_map, hlen]; decide, Nat.zero_le _, by
          rw [szOf_leaves fun t z => by
            obtain ⟨x, hx, rfl⟩ := List.mem_map.mp z
            exact (ht x hx).1]
          unfold trs
          rw [List.length_map, hlen]
          decide, fun e => by
          have := congrArg List.length e
          unfold trs at this
          rw [List.length_map, hlen] at this
          cases this⟩
      refine svs_cons (sv_while PassesOwn.never (fun m ρ η => ∃ (rs : List Rw) (b : PenA) (r : Addr) (j : Nat) (ηr : Sto) (v2 v3 : Option D), ρ = [some (.ref a.p), some (.ref r), v2, v3] ∧ η = b.st ++ (r, .lst (refs rs)) :: ηr ∧ (∀ x ∈ rs, Rw.mo x ∈ ηr) ∧ Round 8 [] 200 (trs rs) j ∧ a.later b ∧ m = rs.length) rs.length ⟨rs, b, L, 0, ηr, none, none, rfl, rfl, fun x hx => (ht x hx).2.2, R0, lb, rfl⟩ ?_)
      clear pm ht hlen lb R0
      rintro m ρ' η' ⟨rs, b, r, j, ηr, v2, v3, rfl, rfl, hm, R, lb, rfl⟩
      have tlen : (trs rs).length = rs.length := by unfold trs; rw [List.length_map]
      have rlen : ∀ rs : List Rw, (refs rs).length = rs.length := fun rs => by unfold refs; rw [List.length_map]
      have tl : rs.length ≤ 400 := by have := R.sz; omega
      have pos : 0 < rs.length := by rw [← tlen]; exact List.length_pos_iff.mpr R.ne
      have wsz : ∀ x ∈ rs, x.2.ws.length ≤ 400 := fun x hx => by
        have mx : x.2 ∈ trs rs := List.mem_map.mpr ⟨x, hx, rfl⟩
        rw [ws_plain (R.lw x.2 mx)]
        obtain ⟨pre, post, e⟩ := List.append_of_mem mx
        have := R.sz
        rw [e, szOf_app, szOf_cons] at this
        omega
      refine tv_cmp (nomark _) (ev_callB h1 boot_len (av_cons (ev_var (d := .ref r) 1 rfl (av_nil (cw_lenL (List.mem_append_right _ List.mem_cons_self) (ev_int (opw_gt ⟨_, rfl, fun e => ?_, fun e => ?_⟩)))))))
      · have l2 : 1 < rs.length := by
          have := of_decide_eq_true e
          rw [rlen] at this
          omega
        refine svs_cons (sv_as 2 (ev_lst (av_nil ⟨Nat.zero_le _, fun q => ?_⟩)) c_law_long.nd)
        refine SVs.perm (η := b.st ++ (q, .lst (refs [])) :: (r, .lst (refs rs)) :: ηr) List.perm_middle ?_
        refine svs_cons (sv_forI (.nm 3) PassesOwn.never rfl (pg_name c_law_long.nd rfl (Or.inl rfl)) (iv_rng3 h2 (av_cons (ev_int (av_cons (ev_bin (ev_callB h1 boot_len (av_cons (ev_var (d := .ref r) 1 rfl (av_nil (cw_lenL (List.mem_append_right _ (List.mem_cons_of_mem _ List.mem_cons_self)) (ev_int (opw_sub (av_cons (ev_int (av_nil ⟨0, _, 2, rs.length / 2, rfl, by rw [rlen]; exact rgH (by omega) (by omega), ?_⟩))))))))))))))))
        refine ⟨fun i ρ' η' => ∃ (fs : List Rw) (b' : PenA) (ηr' : Sto) (v3 : Option D), Pairs [] (trs rs) (trs fs) j i ∧ a.later b' ∧ ρ' = [some (.ref a.p), some (.ref r), some (.ref q), v3] ∧ η' = b'.st ++ (q, .lst (refs fs)) :: ηr' ∧ (∀ x ∈ fs, Rw.mo x ∈ ηr') ∧ (∀ x ∈ rs, Rw.mo x ∈ ηr') ∧ (r, .lst (refs rs)) ∈ ηr', fun _ _ _ _ => trivial,
          ⟨[], b, (r, .lst (refs rs)) :: ηr, v3, ⟨rfl, fun t h => absurd h List.not_mem_nil, fun t h => absurd h List.not_mem_nil, rfl⟩, lb, rfl, rfl, fun x h => absurd h List.not_mem_nil, fun x h => List.mem_cons_of_mem _ (hm x h), List.mem_cons_self⟩, ?_, ?_⟩
        · rintro i d ρ' η' ed ⟨fs, b', ηr', v3, p, lb', rfl, rfl, hf, hr', mr⟩
          obtain ⟨il, rfl⟩ := intsC_get ed
          rw [show ((0 : Int) + (i : Nat) * 2) = ((2 * i : Nat) : Int) by omega]
          obtain ⟨x1, e1⟩ : ∃ x, rs[2 * i]? = some x := ⟨_, List.getElem?_eq_getElem (by omega)⟩
          obtain ⟨x2, e2⟩ : ∃ x, rs[2 * i + 1]? = some x := ⟨_, List.getElem?_eq_getElem (by omega)⟩
          have m1 := List.mem_of_getElem? e1
          have m2 := List.mem_of_getElem? e2
          have w1 := wsz x1 m1
          have w2 := wsz x2 m2
          have fl : fs.length = i := by have := p.il; unfold trs at this; rwa [List.length_map] at this
          refine ⟨trivial, svs_cons (sv_ex (ev_append (ev_var (d := .ref q) 2 rfl ⟨.inl ⟨rfl, _, List.mem_append_right _ List.mem_cons_self⟩, av_cons (ev_bin (ev_bin (ev_lst (av_cons (ev_ix (fun _ _ => rfl) (ev_litL ((["&", "|"] : List Str).map D.str) fun q2 => EV.perm List.perm_middle (ev_draw (a := b') 2 0 G hr (by rw [lb'.2.1]; rfl) lb'.1 (by decide) (by decide) (ev_int ⟨rfl, rfl⟩) fun w b4 w0 w1 lb4 => ?_)))))))⟩)))⟩
          obtain ⟨bit, hbit⟩ : ∃ bit : Bool, atI ((["&", "|"] : List Str).map D.str) w = some (.str (sgn bit)) := by
            rcases (show w = 0 ∨ w = 1 by omega) with rfl | rfl
            · exact ⟨true, rfl⟩
            · exact ⟨false, rfl⟩
          have lb4 := lb'.trans lb4
          refine xw_list (List.mem_append_right _ List.mem_cons_self) hbit (av_nil ⟨by rw [sizeLine_eq]; show 1 ≤ 16777216; decide, fun q3 => ?_⟩)
          have tail : ∀ {y : Addr × Mo}, y ∈ ηr' → y ∈ b4.st ++ (q2, Mo.lst ((["&", "|"] : List Str).map D.str)) :: (q, Mo.lst (refs fs)) :: ηr' := fun h => List.mem_append_right _ (List.mem_cons_of_mem _ (List.mem_cons_of_mem _ h))
          refine ev_ix (fun _ _ => rfl) (ev_var (d := .ref r) 1 rfl (ev_var (d := .int ((2 * i : Nat) : Int)) 3 rfl (xw_list (d := .ref x1.1) (List.mem_cons_of_mem _ (tail mr)) (atI_pos (by unfold refs; rw [List.getElem?_map, e1]; rfl)) ?_)))
          refine opw_catL List.mem_cons_self (List.mem_cons_of_mem _ (tail (hr' x1 m1))) (by rw [sizeLine_eq, List.length_map]; show 1 + _ ≤ _; omega) fun q4 => ?_
          refine ev_ix (fun _ _ => rfl) (ev_var (d := .ref r) 1 rfl (ev_bin (ev_var (d := .int ((2 * i : Nat) : Int)) 3 rfl (ev_int (opw_add (xw_list (d := .ref x2.1) (List.mem_cons_of_mem _ (List.mem_cons_of_mem _ (tail mr))) (atI_pos (i := 2 * i + 1) (by unfold refs; rw [List.getElem?_map, e2]; rfl)) ?_))))))
          refine opw_catL List.mem_cons_self (List.mem_cons_of_mem _ (List.mem_cons_of_mem _ (tail (hr' x2 m2)))) (by rw [sizeLine_eq, List.length_append, List.length_map, List.length_map]; show 1 + _ + _ ≤ _; omega) fun q5 => av_nil ?_
          have ew : [D.str (sgn bit)] ++ x1.2.ws.map D.str ++ x2.2.ws.map D.str = (Tr.bin bit x1.2 x2.2).ws.map D.str := by simp [Tr.ws]
          rw [ew]
          refine MtW.drop (η := Rw.mo (q5, .bin bit x1.2 x2.2) :: (b4.st ++ (q, .lst (refs fs)) :: ηr')) ?_ (MtW.perm (η := b4.st ++ (q, .lst (refs fs)) :: Rw.mo (q5, .bin bit x1.2 x2.2) :: ηr') (((List.Perm.swap _ _ _).append_left b4.st).trans List.perm_middle) (MtW.nd fun nd => mw_append (List.mem_append_right _ List.mem_cons_self) (by rw [sizeLine_eq, rlen]; omega) ?_))
          · exact List.Sublist.cons_cons _ (((List.Sublist.append (List.Sublist.refl _) (List.sublist_cons_self _ _)).cons _).cons _)
          rw [putM_in nd]
          have t1 : (trs rs)[2 * i]? = some x1.2 := by unfold trs; rw [List.getElem?_map, e1]; rfl
          have t2 : (trs rs)[2 * i + 1]? = some x2.2 := by unfold trs; rw [List.getElem?_map, e2]; rfl
          refine svs_nil ⟨fs ++ [(q5, .bin bit x1.2 x2.2)], b4, Rw.mo (q5, .bin bit x1.2 x2.2) :: ηr', _, ?_, lb4, rfl, ?_, ?_, fun x h => List.mem_cons_of_mem _ (hr' x h), List.mem_cons_of_mem _ mr⟩
          · have := p.next R bit t1 t2
            unfold trs at this ⊢
            rw [List.map_append]
            exact this
          · unfold refs
            rw [List.map_append]
            rfl
          · intro x hx
            rcases List.mem_append.mp hx with hx | hx
            · exact List.mem_cons_of_mem _ (hf x hx)
            · rw [List.mem_singleton.mp hx]
              exact List.mem_cons_self
        · rintro ρ' η' ⟨fs, b', ηr', v3, p, lb', rfl, rfl, hf, hr', mr⟩
          rw [intsC_len, ← tlen] at p
          have nx := R.next p (by rw [tlen]; exact l2)
          have fl : (trs fs).length = fs.length := by unfold trs; rw [List.length_map]
          have ed : trs fs ++ (trs rs).drop (2 * (trs fs).length) = trs (fs ++ rs.drop (2 * fs.length)) := by
            rw [fl]
            unfold trs
            rw [List.map_append, List.map_drop]
          have fl2 := p.il
          rw [fl, tlen] at fl2
          rw [ed] at nx
          refine svs_cons (sv_as 1 (hN := c_law_long.nd) (ev_bin (ev_var (d := .ref q) 2 rfl (ev_sliceL (ev_var (d := .ref r) 1 rfl (ev_bin (ev_int (ev_callB h1 boot_len (av_cons (ev_var (d := .ref q) 2 rfl (av_nil (cw_lenL (List.mem_append_right _ List.mem_cons_self) (opw_mul (.inl ⟨by decide, by decide⟩) ⟨_, rfl, r, _, rfl, List.mem_append_right _ (List.mem_cons_of_mem _ mr), fun q3 => opw_catL (List.mem_cons_of_mem _ (List.mem_append_right _ List.mem_cons_self)) List.mem_cons_self ?_ fun q4 => ?_⟩)))))))))))))
          · rw [show (2 * ((refs fs).length : Int)) = ((2 * fs.length : Nat) : Int) by rw [rlen]; omega, cutD_drop, sizeLine_eq, rlen, List.length_drop, rlen]
            omega
          · rw [show (2 * ((refs fs).length : Int)) = ((2 * fs.length : Nat) : Int) by rw [rlen]; omega, cutD_drop]
            have er : refs fs ++ (refs rs).drop (2 * fs.length) = refs (fs ++ rs.drop (2 * fs.length)) := by
              unfold refs
              rw [List.map_append, List.map_drop]
            rw [er]
            refine SVs.drop (η := (q4, .lst (refs (fs ++ rs.drop (2 * fs.length)))) :: (b'.st ++ ηr')) (List.Sublist.cons_cons _ ((List.Sublist.append (List.Sublist.refl _) (List.sublist_cons_self _ _)).cons _)) (SVs.perm (η := b'.st ++ (q4, .lst (refs (fs ++ rs.drop (2 * fs.length)))) :: ηr') List.perm_middle ?_)
            refine svs_nil ⟨_, ?_, fs ++ rs.drop (2 * fs.length), b', q4, j + 1, ηr', _, _, rfl, rfl, ?_, nx.1, lb', rfl⟩
            · have := nx.2
              unfold trs at this
              rwa [List.length_map, List.length_map] at this
            · intro x hx
              rcases List.mem_append.mp hx with hx | hx
              · exact hf x hx
              · exact hr' x (List.mem_of_mem_drop hx)
      · have l1 : rs.length = 1 := by
          have := of_decide_eq_false e
          rw [rlen] at this
          omega
        obtain ⟨x, rfl⟩ := List.length_eq_one_iff.mp l1
        have mx : x.2 ∈ trs [x] := List.mem_cons_self
        have lw := R.lw x.2 mx
        have dp := R.dep x.2 mx
        have jl := R.jl
        have sz := R.sz
        have es : szOf (trs [x]) = x.2.size := by simp [szOf, trs]
        have el : (trs [x]).length = 1 := rfl
        have wp := ws_plain lw
        refine svs_cons (sv_ret (ev_bin (ev_litL ((["~"] : List Str).map D.str) fun q2 => ev_ix (fun _ _ => rfl) (ev_var (d := .ref r) 1 rfl (ev_int (xw_list (List.mem_cons_of_mem _ (List.mem_append_right _ List.mem_cons_self)) (atI0 (x := D.ref x.1) (xs := [])) (opw_catL List.mem_cons_self (List.mem_cons_of_mem _ (List.mem_append_right _ (List.mem_cons_of_mem _ (hm x List.mem_cons_self)))) ?_ fun q3 => ?_)))))))
        · rw [sizeLine_eq]
          show 1 + (x.2.ws.map D.str).length ≤ _
          rw [List.length_map]
          omega
        have ew : (["~"] : List Str).map D.str ++ x.2.ws.map D.str = (Tr.nt x.2).ws.map D.str := by simp [Tr.ws]
        rw [ew]
        refine ⟨b.st ++ [(q3, .lst ((Tr.nt x.2).ws.map D.str))], ?_, ?_, ⟨q3, .nt x.2, b, rfl, ⟨lw.good okN_nil, ?_, ?_, ?_⟩, lb, rfl⟩⟩
        · intro y hy
          rcases List.mem_append.mp hy with hy | hy
          · exact List.mem_cons_of_mem _ (List.mem_cons_of_mem _ (List.mem_append_left _ hy))
          · rw [List.mem_singleton.mp hy]
            exact List.mem_cons_self
        · intro nd
          have sl : ((q3, Mo.lst ((Tr.nt x.2).ws.map D.str)) :: b.st).Sublist ((q3, Mo.lst ((Tr.nt x.2).ws.map D.str)) :: (q2, Mo.lst ((["~"] : List Str).map D.str)) :: (b.st ++ (r, Mo.lst (refs [x])) :: ηr)) := ((List.sublist_append_left _ _).cons _).cons_cons _
          exact ((List.perm_append_comm (l₁ := b.st)).map _).nodup_iff.mpr ((sl.map _).nodup nd)
        · simp only [Tr.dep]; omega
        · simp only [Tr.size]; omega
        · simp only [Tr.ws, List.length_cons]; omega
end
end K85
end Sx

namespace Sx
namespace K85
open PySem PySem.Spec PyProof.Rows L2 TL
open LamX (Tabs TabS TabB ExtN)
def last3 : List Tr := [.wi "k" [], .nt (.miss "in"), .bin true .always (.bin false .never (.wi "or" [(none, none)]))]
theorem canon0 : Canon [] := ⟨List.Pairwise.nil, fun s h => absurd h List.not_mem_nil, fun s h => absurd h List.not_mem_nil, Nat.zero_le _⟩
theorem canon1 : Canon [(none, none)] := ⟨List.pairwise_singleton _ _, fun s h => by rw [List.mem_singleton.mp h]; exact ⟨fun i e => (by cases e), fun i e => (by cases e)⟩, fun s h l k e => (by rw [List.mem_singleton.mp h] at e; cases e), by decide⟩
theorem last3_ok : ∀ t ∈ last3, okR t := by
  intro t ht
  simp only [last3, List.mem_cons, List.not_mem_nil, or_false] at ht
  rcases ht with rfl | rfl | rfl
  · exact ⟨⟨by decide +kernel, canon0.good⟩, by decide, by decide, by decide⟩
  · exact ⟨(show isName "in" = true by decide +kernel), by decide, by decide, by decide⟩
  · exact ⟨⟨trivial, trivial, by decide +kernel, canon1.good⟩, by decide, by decide, by decide⟩
theorem last3_text : last3.map (fun t => D.str t.text) = [.str "in k -", .str "~ missing in", .str "& always | never in or .."] := by
  have e1 : (Tr.wi "k" []).text = "in k -" := by decide +kernel
  have e2 : (Tr.nt (.miss "in")).text = "~ missing in" := by decide +kernel
  have e3 : (Tr.bin true .always (.bin false .never (.wi "or" [(none, none)]))).text = "& always | never in or .." := by decide +kernel
  simp only [last3, List.map_cons, List.map_nil, e1, e2, e3]
section
variable {P : Program} {w : World} {K : PySem.W.Frag} {mg : Str → Option Value} {base : Heap} {MC : Addr → Prop} {T : List (Addr × Str)} {f fR C : Addr} {fd : FuncData}
/-- show_filter(read_filter(..)) -/
theorem k_law (F : Fun K "law" "law" s_law f fd) (bd : Binds K fd ["script"] []) (GP : Cal P w K mg base 1 "_law_pen" ["script"] (spOf ⟨K, MC, T⟩ F_pen)) (GD : Cal P w K mg base 1 "_law_draw" ["pen", "many"] (spOf ⟨K, MC, T⟩ F_draw)) (GN : Cal P w K mg base 3 "_law_names" ["pen", "many", "some"] (spOf ⟨K, MC, T⟩ F_lnames))
    (GT : Cal P w K mg base 5 "_law_tree" ["pen", "columns", "many"] (spOf ⟨K, MC, T⟩ F_ltree)) (GF : Cal P w K mg base 5 "_law_flat" ["pen", "columns", "many"] (spOf ⟨K, MC, T⟩ F_lflat)) (GE : Cal P w K mg base 2 "_law_deep" ["pen", "many"] (spOf ⟨K, MC, T⟩ F_ldeep)) (GL : Cal P w K mg base 2 "_law_long" ["pen"] (spOf ⟨K, MC, T⟩ F_llong))
    (KR : OkG P w K mg base 137 fR (spOf ⟨K, MC, T⟩ F_lright)) (mR : mg "_law_right" = some (.ref fR)) (kR : PySem.W.keepIn K (.ref fR) = true)
    (GS : Cal P w K mg base 4 "show_filter" ["where"] (spOf ⟨K, MC, T⟩ (F_showf C))) (GR : Cal P w K mg base 109 "read_filter" ["text"] (spOf ⟨K, MC, T⟩ (F_readf C))) (hc : Cls K C) (hn : NoAttr K C "tree") (h1 : mg "range" = none) : OkG P w K mg base 138 f (spOf ⟨K, MC, T⟩ F_true) :=
  okG_of _ F c_law (fun _ => rfl) bd fun a cdv A outer s H E hg hr => by
    obtain ⟨ns, hl⟩ := a
    have hl : ns.length ≤ 63 := hl
    have hr1 : Room 1 (A.deeper (envOfC "law" (defScope s_law) s.heap.objs.size f cdv)) := hr.mono (by decide)
    have hr109 : Room 109 (A.deeper (envOfC "law" (defScope s_law) s.heap.objs.size f cdv)) := hr.mono (by decide)
    have hu := un200 hr
    show SVs _ _ [some (.ro (ns.map D.int)), none, none, none, none, none] [] _
    refine svs_cons (sv_as 1 (ev_cal0 GP hr1 (av_cons (ev_var (d := .ro (ns.map D.int)) 0 rfl (av_nil ⟨⟨ns, hl⟩, rfl, rfl, ?_, fun _ _ _ _ z => z⟩)))) c_law.nd)
    rintro d η' ⟨p, c0, rfl, rfl⟩
    refine svs_cons (sv_forI (.nm 2) PassesOwn.never rfl (pg_name c_law.nd rfl (Or.inl rfl)) (iv_rng1 h1 (av_cons (ev_int (av_nil ⟨6, rfl, by decide, by decide, ?_⟩)))))
    refine ⟨fun i ρ' η' => ∃ (b : PenA) (v2 v3 : Option D) (ηr : Sto), b.ok ∧ b.p = p ∧ ρ' = [some (.ro (ns.map D.int)), some (.ref p), v2, v3, none, none] ∧ η' = b.st ++ ηr ∧ (i ≠ 0 → ∃ (c : Addr) (cs : List Str), v3 = some (.ref c) ∧ okN cs ∧ cs.Nodup ∧ ηr = [(c, .lst (cs.map D.str))]), fun _ _ _ _ => trivial,
      ⟨⟨p, c0, ns, 0, 0⟩, none, none, [], ⟨Int.le_refl _, Int.le_refl _, hl⟩, rfl, rfl, rfl, fun z => absurd rfl z⟩, ?_, ?_⟩
    · rintro i d ρ' η' ed ⟨b, v2, v3, ηr, bok, bp, rfl, rfl, _⟩
      refine ⟨trivial, ?_⟩
      refine svs_cons (sv_as 3 (hN := c_law.nd) (ev_cal GN (hr.mono (by decide)) (av_cons (ev_var (d := .ref p) 1 rfl (av_cons (ev_bin (ev_int (ev_draw (a := b) 4 1 GD hr1 (by rw [bp]; rfl) bok (by decide) (by decide) (ev_int ⟨rfl, rfl⟩) fun v b2 v0 v1 lb2 => opw_add ?_))))))))
      obtain ⟨k, rfl⟩ : ∃ k : Nat, v = k := ⟨v.toNat, (Int.toNat_of_nonneg v0).symm⟩
      have bp2 : b2.p = p := lb2.2.1.trans bp
      refine av_cons (ev_lst (av_nil ⟨Nat.zero_le _, fun s => av_nil ⟨⟨⟨b2, 1 + k, s, []⟩, lb2.1, by show 1 + k ≤ 20; omega, Nat.zero_le _⟩, ηr, ?_, ?_, ?_, fun _ _ _ _ z => z.elim⟩⟩))
      · show [D.ref p, D.int (1 + (k : Nat)), D.ref s] = [D.ref b2.p, D.int ((1 + k : Nat) : Int), D.ref s]
        rw [bp2, show ((1 + k : Nat) : Int) = 1 + (k : Int) by omega]
      · show ((s, Mo.lst []) :: (b2.st ++ ηr)).Perm ((b2.st ++ [(s, Mo.lst [])]) ++ ηr)
        rw [List.append_assoc]
        exact List.perm_middle.symm
      rintro d2 η' ⟨q, cs, b3, rfl, cl, cn, ck, lb3, rfl⟩
      have lb3 : b2.later b3 := lb3
      have cl : cs.length = 1 + k := cl
      have oc : okN cs := ⟨by omega, fun x hx => (ck x hx).1⟩
      have bp3 : b3.p = p := lb3.2.1.trans bp2
      refine SVs.drop (η := b3.st ++ [(q, .lst (cs.map D.str))]) ?_ ?_
      · rw [List.append_assoc]
        exact List.Sublist.append (List.Sublist.refl _) ((List.nil_sublist _).cons_cons _)
      show SVs _ _ [some (.ro (ns.map D.int)), some (.ref p), some d, some (.ref q), none, none] _ _
      refine svs_cons (sv_ifC (tv_not (tv_val (ev_fnG KR hr hg mR kR (av_cons (ev_var (d := .ref p) 1 rfl (av_cons (ev_var (d := .ref q) 3 rfl (av_cons (ev_cal GT (hr.mono (by decide)) (av_cons (ev_var (d := .ref p) 1 rfl (av_cons (ev_var (d := .ref q) 3 rfl (av_cons (ev_bin (ev_int (ev_draw (a := b3) 12 1 GD hr1 (by rw [bp3]; rfl) lb3.1 (by decide) (by decide) (ev_int ⟨rfl, rfl⟩) fun v b4 w0 w1 lb4 => opw_add ?_))))))))))))))))))
      obtain ⟨m, rfl⟩ : ∃ m : Nat, v = m := ⟨v.toNat, (Int.toNat_of_nonneg w0).symm⟩
      have bp4 : b4.p = p := lb4.2.1.trans bp3
      refine av_nil ⟨⟨(⟨b4, q, cs⟩, 1 + m), lb4.1, oc, by show 1 ≤ 1 + m; omega, by show 1 + m ≤ 12; omega⟩, [], ?_, by rw [List.append_nil]; exact List.Perm.refl _, ?_, fun _ _ _ _ z => z.elim⟩
      · show [D.ref p, D.ref q, D.int (1 + (m : Nat))] = [D.ref b4.p, D.ref q, D.int ((1 + m : Nat) : Int)]
        rw [bp4, show ((1 + m : Nat) : Int) = 1 + (m : Int) by omega]
      rintro d3 η' ⟨t, b5, rfl, lw, sz, lb5, rfl⟩
      have lb5 : b4.later b5 := lb5
      have sz : t.size ≤ 30 := sz
      have bp5 : b5.p = p := lb5.2.1.trans bp4
      have ds := dep_size t
      refine av_nil ⟨⟨⟨⟨b5, q, cs⟩, t⟩, lb5.1, oc, cn, lw, by show t.dep ≤ 30; omega, by show t.size ≤ 121; omega⟩, [], by show [D.ref p, D.ref q, t.d] = [D.ref b5.p, D.ref q, t.d]; rw [bp5], List.Perm.refl _, ?_, fun _ _ _ _ z => z.elim⟩
      rintro d4 η' ⟨b6, rfl, lb6, rfl⟩
      have lb6 : b5.later b6 := lb6
      refine ⟨true, rfl, (fun z => nomatch z), fun _ => svs_nil (svs_nil ⟨b6, _, _, [(q, .lst (cs.map D.str))], lb6.1, lb6.2.1.trans bp5, rfl, List.append_nil _, fun _ => ⟨q, cs, rfl, oc, cn, rfl⟩⟩)⟩
    · rintro ρ' η' ⟨b, v2, v3, ηr, bok, bp, rfl, rfl, hz⟩
      obtain ⟨q, cs, rfl, oc, cn, rfl⟩ := hz (by decide)
      refine svs_cons (sv_ifC (tv_not (tv_val (ev_fnG KR hr hg mR kR (av_cons (ev_var (d := .ref p) 1 rfl (av_cons (ev_var (d := .ref q) 3 rfl (av_cons (ev_cal GF (hr.mono (by decide)) (av_cons (ev_var (d := .ref p) 1 rfl (av_cons (ev_var (d := .ref q) 3 rfl (av_cons (ev_ix (fun _ _ => rfl) (ev_litL (([60, 31, 2] : List Int).map D.int) fun q2 => EV.perm List.perm_middle (ev_draw (a := b) 3 1 GD hr1 (by rw [bp]; rfl) bok (by decide) (by decide) (ev_int ⟨rfl, rfl⟩) fun w b2 w0 w1 lb2 => ?_))))))))))))))))))
      obtain ⟨m, m1, m2, hm⟩ : ∃ m : Nat, 1 ≤ m ∧ m ≤ 60 ∧ atI (([60, 31, 2] : List Int).map D.int) w = some (.int (m : Nat)) := by
        rcases (show w = 0 ∨ w = 1 ∨ w = 2 by omega) with rfl | rfl | rfl
        · exact ⟨60, by decide, by decide, rfl⟩
        · exact ⟨31, by decide, by decide, rfl⟩
        · exact ⟨2, by decide, by decide, rfl⟩
      have bp2 : b2.p = p := lb2.2.1.trans bp
      refine xw_list (List.mem_append_right _ List.mem_cons_self) hm (AV.drop (List.Sublist.append (List.Sublist.refl _) (List.sublist_cons_self _ _)) ?_)
      refine av_nil ⟨⟨(⟨b2, q, cs⟩, m), lb2.1, oc, m1, m2⟩, [], by show [D.ref p, D.ref q, D.int (m : Nat)] = [D.ref b2.p, D.ref q, D.int ((m : Nat) : Int)]; rw [bp2], by rw [List.append_nil]; exact List.Perm.refl _, ?_, fun _ _ _ _ z => z.elim⟩
      rintro d3 η' ⟨t, b5, rfl, lw, dp, sz, lb5, rfl⟩
      have lb5 : b2.later b5 := lb5
      have sz : t.size ≤ 121 := sz
      have dp : t.dep ≤ 7 := dp
      have bp5 : b5.p = p := lb5.2.1.trans bp2
      refine av_nil ⟨⟨⟨⟨b5, q, cs⟩, t⟩, lb5.1, oc, cn, lw, by show t.dep ≤ 30; omega, by show t.size ≤ 121; omega⟩, [], by show [D.ref p, D.ref q, t.d] = [D.ref b5.p, D.ref q, t.d]; rw [bp5], List.Perm.refl _, ?_, fun _ _ _ _ z => z.elim⟩
      rintro d4 η' ⟨b6, rfl, lb6, rfl⟩
      have lb6 : b5.later b6 := lb6
      refine ⟨true, rfl, (fun z => nomatch z), fun _ => svs_nil ?_⟩
      rw [List.append_nil]
      have bp6 : b6.p = p := lb6.2.1.trans bp5
      refine SVs.drop (η := b6.st ++ []) (List.Sublist.append (List.Sublist.refl _) (List.nil_sublist _)) ?_
      -- the three long ones
      refine svs_cons (sv_forI (.nm 4) PassesOwn.never rfl (pg_name c_law.nd rfl (Or.inl rfl)) (iv_tup (ev_tup (av_cons (ev_cal GE (hr.mono (by decide)) (av_cons (ev_var (d := .ref p) 1 rfl (av_cons (ev_int (av_nil ⟨⟨(b6, 100), lb6.1, Nat.le_refl _⟩, [], by show [D.ref p, D.int 100] = [D.ref b6.p, D.int ((100 : Nat) : Int)]; rw [bp6]; rfl, List.Perm.refl _, ?_, fun _ _ _ _ z => z.elim⟩))))))))))
      rintro d5 η' ⟨a1, t1, b7, rfl, ok1, lb7, rfl⟩
      have lb7 : b6.later b7 := lb7
      have bp7 : b7.p = p := lb7.2.1.trans bp6
      rw [List.append_nil]
      refine av_cons (ev_cal GE (hr.mono (by decide)) (av_cons (ev_var (d := .ref p) 1 rfl (av_cons (ev_bin (ev_int (ev_draw (a := b7) 99 1 GD hr1 (by rw [bp7]; rfl) lb7.1 (by decide) (by decide) (ev_int ⟨rfl, rfl⟩) fun v b8 w0 w1 lb8 => opw_add ?_)))))))
      obtain ⟨k, rfl⟩ : ∃ k : Nat, v = k := ⟨v.toNat, (Int.toNat_of_nonneg w0).symm⟩
      have bp8 : b8.p = p := lb8.2.1.trans bp7
      refine av_nil ⟨⟨(b8, 1 + k), lb8.1, by show 1 + k ≤ 100; omega⟩, [(a1, .lst (t1.ws.map D.str))], ?_, List.Perm.refl _, ?_, fun _ _ _ _ z => z.elim⟩
      · show [D.ref p, D.int (1 + (k : Nat))] = [D.ref b8.p, D.int ((1 + k : Nat) : Int)]
        rw [bp8, show ((1 + k : Nat) : Int) = 1 + (k : Int) by omega]
      rintro d5 η' ⟨a2, t2, b9, rfl, ok2, lb9, rfl⟩
      have lb9 : b8.later b9 := lb9
      have bp9 : b9.p = p := lb9.2.1.trans bp8
      rw [List.append_assoc]
      refine av_cons (ev_cal GL (hr.mono (by decide)) (av_cons (ev_var (d := .ref p) 1 rfl (av_nil ⟨⟨b9, lb9.1⟩, _, by show [D.ref p] = [D.ref b9.p]; rw [bp9], List.Perm.refl _, ?_, fun _ _ _ _ z => z.elim⟩))))
      rintro d5 η' ⟨a3, t3, b10, rfl, ok3, lb10, rfl⟩
      refine av_nil ⟨by rw [sizeLine_eq]; show 3 ≤ 16777216; decide, _, rfl, ?_⟩
      rw [List.append_assoc]
      refine ⟨fun i ρ' η' => ∃ v4 : Option D, ρ' = [some (.ro (ns.map D.int)), some (.ref p), v2, some (.ref q), v4, none] ∧ η' = b10.st ++ [(a3, .lst (t3.ws.map D.str)), (a2, .lst (t2.ws.map D.str)), (a1, .lst (t1.ws.map D.str))], fun _ _ _ _ => trivial, ⟨none, rfl, rfl⟩, ?_, ?_⟩
      · rintro i d ρ' η' ed ⟨v4, rfl, rfl⟩
        refine ⟨trivial, ?_⟩
        obtain ⟨a, t, ea, mt, okt⟩ : ∃ (a : Addr) (t : Tr), d = .ref a ∧ (a, Mo.lst (t.ws.map D.str)) ∈ b10.st ++ [(a3, Mo.lst (t3.ws.map D.str)), (a2, .lst (t2.ws.map D.str)), (a1, .lst (t1.ws.map D.str))] ∧ okR t := by
          match i, ed with
          | 0, ed => exact ⟨a1, t1, (Option.some.inj ed).symm, List.mem_append_right _ (List.mem_cons_of_mem _ (List.mem_cons_of_mem _ List.mem_cons_self)), ok1⟩
          | 1, ed => exact ⟨a2, t2, (Option.some.inj ed).symm, List.mem_append_right _ (List.mem_cons_of_mem _ List.mem_cons_self), ok2⟩
          | 2, ed => exact ⟨a3, t3, (Option.some.inj ed).symm, List.mem_append_right _ List.mem_cons_self, ok3⟩
          | i + 3, ed => cases ed
        subst ea
        obtain ⟨gd, dp, sz, wl⟩ := okt
        have ws1 := ws_sum gd sz
        have one : ((" ") : Str).length = 1 := by decide
        have js : (t.ws.map (·.length)).sum + t.ws.length * ((" ") : Str).length ≤ 16777216 := by rw [one]; omega
        show SVs _ _ [some (.ro (ns.map D.int)), some (.ref p), v2, some (.ref q), some (.ref a), none] _ _
        refine svs_cons (sv_ifC (tv_cmp (nomark _) (ev_cal0 GS (hr.mono (by decide)) (av_cons (ev_cal0 GR hr109 (av_cons (ev_join (ev_str ⟨rfl, av_cons (ev_var (d := .ref a) 4 rfl (av_nil (mw_join mt js (av_nil ⟨⟨t, gd, dp, sz, wl⟩, rfl, rfl, ?_, fun _ _ _ _ z => z⟩))))⟩))))))))
        rintro d5 η' ⟨rfl, rfl⟩
        refine av_nil ⟨⟨t, gd, sz⟩, rfl, rfl, ?_, fun _ _ _ _ z => z⟩
        rintro d5 η' ⟨rfl, rfl⟩
        refine ev_join (ev_str ⟨rfl, av_cons (ev_var (d := .ref a) 4 rfl (av_nil (mw_join mt js (opw_neS ⟨_, rfl, fun z => absurd z (by simp), fun _ => svs_nil (svs_nil ⟨_, rfl, rfl⟩)⟩))))⟩)
      · rintro ρ' η' ⟨v4, rfl, rfl⟩
        refine SVs.drop (List.nil_sublist _) ?_
        refine svs_cons (sv_ret (ev_cmp (nomark _) (ev_lcM (own := [("wording", 5)]) (.nm 5) last3 (fun t => D.str t.text) Tr.d rfl c_law.nd (blkOk_by (N := n_law) (sc := defScope s_law) (by decide +kernel)) (fun _ _ _ _ _ => pg_name c_law.nd rfl (Or.inl rfl) (Or.inr rfl)) (by decide) ?_)))
        refine iv_tup (ev_lit (.tup [.str "in k -", .str "~ missing in", .str "& always | never in or .."]) ⟨_, rfl, last3_text.symm, trivial, by rw [sizeLine_eq]; decide, fun t ht => ⟨trivial, fun s' H' Cc cl fp => ?_⟩, fun L => ?_⟩)
        · refine ev_fld (ev_cal0 GR hr109 (av_cons (ev_var (d := .str t.text) 5 rfl (av_nil ⟨⟨t, last3_ok t ht⟩, rfl, rfl, ?_, fun _ _ _ _ z => z⟩))))
          rintro d η' ⟨rfl, rfl⟩
          exact ⟨C, _, t.d, rfl, hc, hn, rfl, rfl, rfl⟩
        · refine ev_litL (last3.map Tr.d) fun z => ?_
          have lay : (PyData.list (last3.map Tr.p)).canLay0 = true := by
            simp only [PyData.canLay0]
            exact lay_trs last3 fun t ht => (last3_ok t ht).1
          refine opw_eqDd hu (by decide +kernel) (.lst (List.mem_cons_of_mem _ List.mem_cons_self) (pd_map (f := Tr.d) (g := Tr.p) (fun a => pd_tr a) last3)) (.lst List.mem_cons_self (pd_map (f := Tr.d) (g := Tr.p) (fun a => pd_tr a) last3)) lay lay (lose_nil ⟨?_, rfl⟩)
          rw [PySem.SeqAt.eqv_refl _ lay]
end
end K85
end Sx

namespace Sx
namespace K85
open PySem PySem.Spec PyProof.Rows L2 TL
open LamX (Tabs TabS TabB ExtN)
def fnS : List He5.DefA := [dat (atG "part_text") "part_text" "part_text" s_part_text,
  dat (atG "parts_text") "parts_text" "parts_text" s_parts_text,
  dat (atG "tree_words") "tree_words" "tree_words" s_tree_words,
  dat (atG "show_filter") "show_filter" "show_filter" s_show_filter,
  dat (atG "show_ranges") "show_ranges" "show_ranges" s_show_ranges,
  dat (atG "higher_high") "higher_high" "higher_high" s_higher_high,
  dat (atG "is_empty") "is_empty" "is_empty" s_is_empty,
  dat (atG "joined") "joined" "joined" s_joined,
  dat (atG "has_number") "has_number" "has_number" s_has_number,
  dat (atM "Ranges" "__init__") "__init__" "Ranges.__init__" s_Rangesu_initu,
  dat (atC "Ranges" "between") "between" "Ranges.between" s_Ranges_between,
  dat (atC "Ranges" "empty") "empty" "Ranges.empty" s_Ranges_empty,
  dat (atM "Ranges" "__or__") "__or__" "Ranges.__or__" s_Rangesu_oru,
  dat (atG "columns_in") "columns_in" "columns_in" s_columns_in,
  dat (atG "both") "both" "both" s_both,
  dat (atG "truth_of") "truth_of" "truth_of" s_truth_of,
  dat (atM "Filter" "__init__") "__init__" "Filter.__init__" s_Filteru_initu,
  dat (atC "Filter" "within") "within" "Filter.within" s_Filter_within,
  dat (atC "Filter" "missing") "missing" "Filter.missing" s_Filter_missing,
  dat (atC "Filter" "always") "always" "Filter.always" s_Filter_always,
  dat (atC "Filter" "never") "never" "Filter.never" s_Filter_never,
  dat (atM "Filter" "__and__") "__and__" "Filter.__and__" s_Filteru_andu,
  dat (atM "Filter" "__or__") "__or__" "Filter.__or__" s_Filteru_oru,
  dat (atM "Filter" "__invert__") "__invert__" "Filter.__invert__" s_Filteru_invertu,
  dat (atM "Filter" "__eq__") "__eq__" "Filter.__eq__" s_Filteru_equ,
  dat (atM "Filter" "__call__") "__call__" "Filter.__call__" s_Filteru_callu,
  dat (atG "name_in") "name_in" "name_in" s_name_in,
  dat (atG "integer_in") "integer_in" "integer_in" s_integer_in [.int 30],
  dat (atG "one_of") "one_of" "one_of" s_one_of,
  dat (atM "Words" "__init__") "__init__" "Words.__init__" s_Wordsu_initu,
  dat (atM "Words" "present") "present" "Words.present" s_Words_present,
  dat (atM "Words" "need") "need" "Words.need" s_Words_need,
  dat (atM "Words" "need_word") "need_word" "Words.need_word" s_Words_need_word,
  dat (atM "Words" "need_name") "need_name" "Words.need_name" s_Words_need_name,
  dat (atM "Words" "need_end") "need_end" "Words.need_end" s_Words_need_end,
  dat (atG "lines_of") "lines_of" "lines_of" s_lines_of,
  dat (atG "bound_in") "bound_in" "bound_in" s_bound_in,
  dat (atG "part_in") "part_in" "part_in" s_part_in,
  dat (atG "ranges_in") "ranges_in" "ranges_in" s_ranges_in,
  dat (atG "condition_from") "condition_from" "condition_from" s_condition_from,
  dat (atG "tokens_from") "tokens_from" "tokens_from" s_tokens_from,
  dat (atG "joined_tokens") "joined_tokens" "joined_tokens" s_joined_tokens,
  dat (atG "filter_from") "filter_from" "filter_from" s_filter_from,
  dat (atG "read_filter") "read_filter" "read_filter" s_read_filter,
  dat (atG "need_no_more") "need_no_more" "need_no_more" s_need_no_more,
  dat (atG "_law_pen") "_law_pen" "_law_pen" s_law_pen,
  dat (atG "_law_draw") "_law_draw" "_law_draw" s_law_draw,
  dat (atG "_law_name") "_law_name" "_law_name" s_law_name,
  dat (atG "_law_names") "_law_names" "_law_names" s_law_names,
  dat (atG "_law_bound") "_law_bound" "_law_bound" s_law_bound,
  dat (atG "_law_parts") "_law_parts" "_law_parts" s_law_parts,
  dat (atG "_law_ranges") "_law_ranges" "_law_ranges" s_law_ranges,
  dat (atG "_law_parts_text") "_law_parts_text" "_law_parts_text" s_law_parts_text,
  dat (atG "_law_leaf") "_law_leaf" "_law_leaf" s_law_leaf,
  dat (atG "_law_tree") "_law_tree" "_law_tree" s_law_tree,
  dat (atG "_law_filter") "_law_filter" "_law_filter" s_law_filter,
  dat (atG "_law_words") "_law_words" "_law_words" s_law_words,
  dat (atG "_law_flat") "_law_flat" "_law_flat" s_law_flat,
  dat (atG "_law_right") "_law_right" "_law_right" s_law_right,
  dat (atG "_law_deep") "_law_deep" "_law_deep" s_law_deep,
  dat (atG "_law_long") "_law_long" "_law_long" s_law_long,
  dat (atG "law") "law" "law" s_law]
def faS : List He.Fa := [.glo "part_text", .glo "parts_text", .glo "tree_words", .glo "show_filter", .glo "show_ranges", .glo "higher_high", .glo "is_empty", .glo "joined", .glo "has_number", .glo "columns_in", .glo "both", .glo "truth_of", .glo "name_in", .glo "integer_in", .glo "one_of", .glo "lines_of", .glo "bound_in", .glo "part_in", .glo "ranges_in", .glo "condition_from", .glo "tokens_from", .glo "joined_tokens", .glo "filter_from", .glo "read_filter", .glo "need_no_more", .glo "_law_pen", .glo "_law_draw", .glo "_law_name", .glo "_law_names", .glo "_law_bound", .glo "_law_parts", .glo "_law_ranges", .glo "_law_parts_text", .glo "_law_leaf", .glo "_law_tree", .glo "_law_filter", .glo "_law_words", .glo "_law_flat", .glo "_law_right", .glo "_law_deep", .glo "_law_long", .glo "law", .free "str", .free "isinstance", .free "int", .free "max", .free "min", .free "any", .free "sorted", .free "set", .free "tuple", .free "len", .free "enumerate", .free "reversed", .free "list", .free "abs", .free "range", .free "repr", .glo "Ranges", .glo "Words", .glo "Filter", .glo "CONDITIONS", .glo "SIGNS_reader", .glo "SIGNS_texts", .noat "Ranges" "parts", .noat "Filter" "tree", .noat "Filter" "columns", .noat "Words" "line", .noat "Words" "words", .noat "Words" "at", .noat "Words" "end", .mkr "Ranges", .mkr "Words", .mkr "Filter", .meth "Words" "present", .meth "Words" "need", .meth "Words" "need_word", .meth "Words" "need_name", .meth "Words" "need_end", .str "FIGURES" "0123456789", .str "LETTERS" "abcdefghijklmnopqrstuvwxyz", .int "MOST_BOUND_FIGURES" 12, .int "MOST_LETTERS" 8, .int "MOST_FILTER_WORDS" 400, .int "MOST_WITHIN" 100]

def tsS : List He.Tab := [(fun K => He.ga K "SIGNS_texts", ["and", "or"])]
def exS (K : PySem.W.Frag) : Bool := clsAll K (He.ga K "Ranges") && (clsAll K (He.ga K "Filter") && (clsAll K (He.ga K "Words") && (cmB K (He.ga K "Ranges") "between" && (cmB K (He.ga K "Ranges") "empty" && (ownB K (He.ga K "Ranges") "__or__" && (PySem.W.selfFirst K (He.ga K "Ranges") && (cmB K (He.ga K "Filter") "within" && (cmB K (He.ga K "Filter") "missing" && (cmB K (He.ga K "Filter") "always" && (cmB K (He.ga K "Filter") "never" && (ownB K (He.ga K "Filter") "__and__" && (ownB K (He.ga K "Filter") "__or__" && (ownB K (He.ga K "Filter") "__invert__" && (ownB K (He.ga K "Filter") "__eq__" && (ownB K (He.ga K "Filter") "__call__" && (PySem.W.fnIn K (He.ma K (He.ga K "Filter") "__call__") && (PySem.W.selfFirst K (He.ga K "Filter") && (PySem.W.notFirst K (He.ga K "Filter") (.ref (He.ga K "Filter")) && (bmB K (He.ga K "Words") "need_word" && (decide (PySem.W.kitOne K (.ref (He.ga K "Filter")) (.type "str") = some false) && (He.tupB K "CONDITIONS" (condT.map He.Dv.str) && (He.tupB K "SIGNS_reader" (signsT.map He.Dv.str) && (He.valsB K (He.ga K "SIGNS_texts") (signT.map fun p => (p.1, He.Dv.str p.2)) && (decide ((He.ga K "Ranges") ≠ (He.ga K "Words")) && (decide ((He.ga K "Filter") ≠ (He.ga K "Words")))))))))))))))))))))))))))
theorem facts {l : PySem.W.OpenLaw} {w : World} {K : PySem.W.Frag} {h : Heap} {mg : Str → Option Value} {fa : Addr} (X : K.In h) (G : h.Ns mainGlobals mg) (hfa : mg ("law" : Str) = some (.ref fa)) (cW : ToldW faS fnS [("joined", none)] tsS exS w h K) : LawAtG l w K 138 63 mg fa h := by
  have c : Told faS fnS [("joined", none)] exS h K := cW.toTold
  have kdT := cW.ts _ (List.mem_cons_self)
  obtain ⟨fd_part_text, D_part_text⟩ := c.def_ 0 (d := _) rfl
  have U_part_text : Fun K "part_text" "part_text" s_part_text (He.ga K "part_text") fd_part_text := He5.fun_of D_part_text
  have b_part_text : Binds K fd_part_text ["low", "high"] [] := U_part_text.binds fun _ _ _ _ _ _ us hl => match us, hl with | [_, _], _ => rfl
  clear D_part_text
  have g_part_text : mg "part_text" = some (.ref (He.ga K "part_text")) := He.glo_ok X G (c.fact 0 (f := .glo "part_text") rfl)
  obtain ⟨fd_parts_text, D_parts_text⟩ := c.def_ 1 (d := _) rfl
  have U_parts_text : Fun K "parts_text" "parts_text" s_parts_text (He.ga K "parts_text") fd_parts_text := He5.fun_of D_parts_text
  have b_parts_text : Binds K fd_parts_text ["parts"] [] := U_parts_text.binds fun _ _ _ _ _ _ us hl => match us, hl with | [_], _ => rfl
  clear D_parts_text
  have g_parts_text : mg "parts_text" = some (.ref (He.ga K "parts_text")) := He.glo_ok X G (c.fact 1 (f := .glo "parts_text") rfl)
  obtain ⟨fd_tree_words, D_tree_words⟩ := c.def_ 2 (d := _) rfl
  have U_tree_words : Fun K "tree_words" "tree_words" s_tree_words (He.ga K "tree_words") fd_tree_words := He5.fun_of D_tree_words
  have b_tree_words : Binds K fd_tree_words ["tree"] [] := U_tree_words.binds fun _ _ _ _ _ _ us hl => match us, hl with | [_], _ => rfl
  clear D_tree_words
  have g_tree_words : mg "tree_words" = some (.ref (He.ga K "tree_words")) := He.glo_ok X G (c.fact 2 (f := .glo "tree_words") rfl)
  obtain ⟨fd_show_filter, D_show_filter⟩ := c.def_ 3 (d := _) rfl
  have U_show_filter : Fun K "show_filter" "show_filter" s_show_filter (He.ga K "show_filter") fd_show_filter := He5.fun_of D_show_filter
  have b_show_filter : Binds K fd_show_filter ["where"] [] := U_show_filter.binds fun _ _ _ _ _ _ us hl => match us, hl with | [_], _ => rfl
  clear D_show_filter
  have g_show_filter : mg "show_filter" = some (.ref (He.ga K "show_filter")) := He.glo_ok X G (c.fact 3 (f := .glo "show_filter") rfl)
  obtain ⟨fd_show_ranges, D_show_ranges⟩ := c.def_ 4 (d := _) rfl
  have U_show_ranges : Fun K "show_ranges" "show_ranges" s_show_ranges (He.ga K "show_ranges") fd_show_ranges := He5.fun_of D_show_ranges
  have b_show_ranges : Binds K fd_show_ranges ["ranges"] [] := U_show_ranges.binds fun _ _ _ _ _ _ us hl => match us, hl with | [_], _ => rfl
  clear D_show_ranges
  have g_show_ranges : mg "show_ranges" = some (.ref (He.ga K "show_ranges")) := He.glo_ok X G (c.fact 4 (f := .glo "show_ranges") rfl)
  obtain ⟨fd_higher_high, D_higher_high⟩ := c.def_ 5 (d := _) rfl
  have U_higher_high : Fun K "higher_high" "higher_high" s_higher_high (He.ga K "higher_high") fd_higher_high := He5.fun_of D_higher_high
  have b_higher_high : Binds K fd_higher_high ["one", "other"] [] := U_higher_high.binds fun _ _ _ _ _ _ us hl => match us, hl with | [_, _], _ => rfl
  clear D_higher_high
  have g_higher_high : mg "higher_high" = some (.ref (He.ga K "higher_high")) := He.glo_ok X G (c.fact 5 (f := .glo "higher_high") rfl)
  obtain ⟨fd_is_empty, D_is_empty⟩ := c.def_ 6 (d := _) rfl
  have U_is_empty : Fun K "is_empty" "is_empty" s_is_empty (He.ga K "is_empty") fd_is_empty := He5.fun_of D_is_empty
  have b_is_empty : Binds K fd_is_empty ["low", "high"] [] := U_is_empty.binds fun _ _ _ _ _ _ us hl => match us, hl with | [_, _], _ => rfl
  clear D_is_empty
  have g_is_empty : mg "is_empty" = some (.ref (He.ga K "is_empty")) := He.glo_ok X G (c.fact 6 (f := .glo "is_empty") rfl)
  obtain ⟨fd_joined, D_joined⟩ := c.def_ 7 (d := _) rfl
  have U_joined : Fun K "joined" "joined" s_joined (He.ga K "joined") fd_joined := He5.fun_of D_joined
  have b_joined : Binds K fd_joined ["stretches"] [] := U_joined.binds fun _ _ _ _ _ _ us hl => match us, hl with | [_], _ => rfl
  have g_joined : mg "joined" = some (.ref (He.ga K "joined")) := He.glo_ok X G (c.fact 7 (f := .glo "joined") rfl)
  obtain ⟨fd_has_number, D_has_number⟩ := c.def_ 8 (d := _) rfl
  have U_has_number : Fun K "has_number" "has_number" s_has_number (He.ga K "has_number") fd_has_number := He5.fun_of D_has_number
  have b_has_number : Binds K fd_has_number ["parts", "number"] [] := U_has_number.binds fun _ _ _ _ _ _ us hl => match us, hl with | [_, _], _ => rfl
  clear D_has_number
  have g_has_number : mg "has_number" = some (.ref (He.ga K "has_number")) := He.glo_ok X G (c.fact 8 (f := .glo "has_number") rfl)
  obtain ⟨fd_Rangesu_initu, D_Rangesu_initu⟩ := c.def_ 9 (d := _) rfl
  have U_Rangesu_initu : Fun K "__init__" "Ranges.__init__" s_Rangesu_initu (He.ma K (He.ga K "Ranges") "__init__") fd_Rangesu_initu := He5.fun_of D_Rangesu_initu
  have b_Rangesu_initu : Binds K fd_Rangesu_initu ["self", "stretches"] [] := U_Rangesu_initu.binds fun _ _ _ _ _ _ us hl => match us, hl with | [_, _], _ => rfl
  clear D_Rangesu_initu
  obtain ⟨fd_Ranges_between, D_Ranges_between⟩ := c.def_ 10 (d := _) rfl
  have U_Ranges_between : Fun K "between" "Ranges.between" s_Ranges_between (He5.wf K (He.ga K "Ranges") "classmethod" "between") fd_Ranges_between := He5.fun_of D_Ranges_between
  have b_Ranges_between : Binds K fd_Ranges_between ["cls", "low", "high"] [] := U_Ranges_between.binds fun _ _ _ _ _ _ us hl => match us, hl with | [_, _, _], _ => rfl
  clear D_Ranges_between
  obtain ⟨fd_Ranges_empty, D_Ranges_empty⟩ := c.def_ 11 (d := _) rfl
  have U_Ranges_empty : Fun K "empty" "Ranges.empty" s_Ranges_empty (He5.wf K (He.ga K "Ranges") "classmethod" "empty") fd_Ranges_empty := He5.fun_of D_Ranges_empty
  have b_Ranges_empty : Binds K fd_Ranges_empty ["cls"] [] := U_Ranges_empty.binds fun _ _ _ _ _ _ us hl => match us, hl with | [_], _ => rfl
  clear D_Ranges_empty
  obtain ⟨fd_Rangesu_oru, D_Rangesu_oru⟩ := c.def_ 12 (d := _) rfl
  have U_Rangesu_oru : Fun K "__or__" "Ranges.__or__" s_Rangesu_oru (He.ma K (He.ga K "Ranges") "__or__") fd_Rangesu_oru := He5.fun_of D_Rangesu_oru
  have b_Rangesu_oru : Binds K fd_Rangesu_oru ["self", "other"] [] := U_Rangesu_oru.binds fun _ _ _ _ _ _ us hl => match us, hl with | [_, _], _ => rfl
  clear D_Rangesu_oru
  obtain ⟨fd_columns_in, D_columns_in⟩ := c.def_ 13 (d := _) rfl
  have U_columns_in : Fun K "columns_in" "columns_in" s_columns_in (He.ga K "columns_in") fd_columns_in := He5.fun_of D_columns_in
  have b_columns_in : Binds K fd_columns_in ["tree"] [] := U_columns_in.binds fun _ _ _ _ _ _ us hl => match us, hl with | [_], _ => rfl
  clear D_columns_in
  have g_columns_in : mg "columns_in" = some (.ref (He.ga K "columns_in")) := He.glo_ok X G (c.fact 9 (f := .glo "columns_in") rfl)
  obtain ⟨fd_both, D_both⟩ := c.def_ 14 (d := _) rfl
  have U_both : Fun K "both" "both" s_both (He.ga K "both") fd_both := He5.fun_of D_both
  have b_both : Binds K fd_both ["one", "other", "strong"] [] := U_both.binds fun _ _ _ _ _ _ us hl => match us, hl with | [_, _, _], _ => rfl
  clear D_both
  have g_both : mg "both" = some (.ref (He.ga K "both")) := He.glo_ok X G (c.fact 10 (f := .glo "both") rfl)
  obtain ⟨fd_truth_of, D_truth_of⟩ := c.def_ 15 (d := _) rfl
  have U_truth_of : Fun K "truth_of" "truth_of" s_truth_of (He.ga K "truth_of") fd_truth_of := He5.fun_of D_truth_of
  have b_truth_of : Binds K fd_truth_of ["tree", "values"] [] := U_truth_of.binds fun _ _ _ _ _ _ us hl => match us, hl with | [_, _], _ => rfl
  clear D_truth_of
  have g_truth_of : mg "truth_of" = some (.ref (He.ga K "truth_of")) := He.glo_ok X G (c.fact 11 (f := .glo "truth_of") rfl)
  obtain ⟨fd_Filteru_initu, D_Filteru_initu⟩ := c.def_ 16 (d := _) rfl
  have U_Filteru_initu : Fun K "__init__" "Filter.__init__" s_Filteru_initu (He.ma K (He.ga K "Filter") "__init__") fd_Filteru_initu := He5.fun_of D_Filteru_initu
  have b_Filteru_initu : Binds K fd_Filteru_initu ["self", "tree"] [] := U_Filteru_initu.binds fun _ _ _ _ _ _ us hl => match us, hl with | [_, _], _ => rfl
  clear D_Filteru_initu
  obtain ⟨fd_Filter_within, D_Filter_within⟩ := c.def_ 17 (d := _) rfl
  have U_Filter_within : Fun K "within" "Filter.within" s_Filter_within (He5.wf K (He.ga K "Filter") "classmethod" "within") fd_Filter_within := He5.fun_of D_Filter_within
  have b_Filter_within : Binds K fd_Filter_within ["cls", "column", "ranges"] [] := U_Filter_within.binds fun _ _ _ _ _ _ us hl => match us, hl with | [_, _, _], _ => rfl
  clear D_Filter_within
  obtain ⟨fd_Filter_missing, D_Filter_missing⟩ := c.def_ 18 (d := _) rfl
  have U_Filter_missing : Fun K "missing" "Filter.missing" s_Filter_missing (He5.wf K (He.ga K "Filter") "classmethod" "missing") fd_Filter_missing := He5.fun_of D_Filter_missing
  have b_Filter_missing : Binds K fd_Filter_missing ["cls", "column"] [] := U_Filter_missing.binds fun _ _ _ _ _ _ us hl => match us, hl with | [_, _], _ => rfl
  clear D_Filter_missing
  obtain ⟨fd_Filter_always, D_Filter_always⟩ := c.def_ 19 (d := _) rfl
  have U_Filter_always : Fun K "always" "Filter.always" s_Filter_always (He5.wf K (He.ga K "Filter") "classmethod" "always") fd_Filter_always := He5.fun_of D_Filter_always
  have b_Filter_always : Binds K fd_Filter_always ["cls"] [] := U_Filter_always.binds fun _ _ _ _ _ _ us hl => match us, hl with | [_], _ => rfl
  clear D_Filter_always
  obtain ⟨fd_Filter_never, D_Filter_never⟩ := c.def_ 20 (d := _) rfl
  have U_Filter_never : Fun K "never" "Filter.never" s_Filter_never (He5.wf K (He.ga K "Filter") "classmethod" "never") fd_Filter_never := He5.fun_of D_Filter_never
  have b_Filter_never : Binds K fd_Filter_never ["cls"] [] := U_Filter_never.binds fun _ _ _ _ _ _ us hl => match us, hl with | [_], _ => rfl
  clear D_Filter_never
  obtain ⟨fd_Filteru_andu, D_Filteru_andu⟩ := c.def_ 21 (d := _) rfl
  have U_Filteru_andu : Fun K "__and__" "Filter.__and__" s_Filteru_andu (He.ma K (He.ga K "Filter") "__and__") fd_Filteru_andu := He5.fun_of D_Filteru_andu
  have b_Filteru_andu : Binds K fd_Filteru_andu ["self", "other"] [] := U_Filteru_andu.binds fun _ _ _ _ _ _ us hl => match us, hl with | [_, _], _ => rfl
  clear D_Filteru_andu
  obtain ⟨fd_Filteru_oru, D_Filteru_oru⟩ := c.def_ 22 (d := _) rfl
  have U_Filteru_oru : Fun K "__or__" "Filter.__or__" s_Filteru_oru (He.ma K (He.ga K "Filter") "__or__") fd_Filteru_oru := He5.fun_of D_Filteru_oru
  have b_Filteru_oru : Binds K fd_Filteru_oru ["self", "other"] [] := U_Filteru_oru.binds fun _ _ _ _ _ _ us hl => match us, hl with | [_, _], _ => rfl
  clear D_Filteru_oru
  obtain ⟨fd_Filteru_invertu, D_Filteru_invertu⟩ := c.def_ 23 (d := _) rfl
  have U_Filteru_invertu : Fun K "__invert__" "Filter.__invert__" s_Filteru_invertu (He.ma K (He.ga K "Filter") "__invert__") fd_Filteru_invertu := He5.fun_of D_Filteru_invertu
  have b_Filteru_invertu : Binds K fd_Filteru_invertu ["self"] [] := U_Filteru_invertu.binds fun _ _ _ _ _ _ us hl => match us, hl with | [_], _ => rfl
  clear D_Filteru_invertu
  obtain ⟨fd_Filteru_equ, D_Filteru_equ⟩ := c.def_ 24 (d := _) rfl
  have U_Filteru_equ : Fun K "__eq__" "Filter.__eq__" s_Filteru_equ (He.ma K (He.ga K "Filter") "__eq__") fd_Filteru_equ := He5.fun_of D_Filteru_equ
  have b_Filteru_equ : Binds K fd_Filteru_equ ["self", "other"] [] := U_Filteru_equ.binds fun _ _ _ _ _ _ us hl => match us, hl with | [_, _], _ => rfl
  clear D_Filteru_equ
  obtain ⟨fd_Filteru_callu, D_Filteru_callu⟩ := c.def_ 25 (d := _) rfl
  have U_Filteru_callu : Fun K "__call__" "Filter.__call__" s_Filteru_callu (He.ma K (He.ga K "Filter") "__call__") fd_Filteru_callu := He5.fun_of D_Filteru_callu
  have b_Filteru_callu : Binds K fd_Filteru_callu ["self", "values"] [] := U_Filteru_callu.binds fun _ _ _ _ _ _ us hl => match us, hl with | [_, _], _ => rfl
  clear D_Filteru_callu
  obtain ⟨fd_name_in, D_name_in⟩ := c.def_ 26 (d := _) rfl
  have U_name_in : Fun K "name_in" "name_in" s_name_in (He.ga K "name_in") fd_name_in := He5.fun_of D_name_in
  have b_name_in : Binds K fd_name_in ["word"] [] := U_name_in.binds fun _ _ _ _ _ _ us hl => match us, hl with | [_], _ => rfl
  clear D_name_in
  have g_name_in : mg "name_in" = some (.ref (He.ga K "name_in")) := He.glo_ok X G (c.fact 12 (f := .glo "name_in") rfl)
  obtain ⟨fd_integer_in, D_integer_in⟩ := c.def_ 27 (d := _) rfl
  have U_integer_in : FunV K "integer_in" "integer_in" s_integer_in (He.ga K "integer_in") fd_integer_in := funV_of D_integer_in
  have b_integer_in : Binds K fd_integer_in ["word", "most"] [] := by
    obtain ⟨ds, v, b⟩ := D_integer_in.binds1 (ps := ["word", "most"]) 2 1 (List.cons_ne_nil _ _) rfl fun _ _ _ _ _ _ _ us its h1 h2 => match us, its, h1, h2 with | [_, _], [_], _, _ => ⟨_, rfl, rfl⟩
    cases v
    exact b
  obtain ⟨dv1_integer_in, v1_integer_in, b1_integer_in⟩ := D_integer_in.binds1 (ps := ["word", "most"]) 1 0 (List.cons_ne_nil _ _) rfl fun _ _ _ _ _ _ _ us its h1 h2 => match us, its, h1, h2 with | [_], [_], _, _ => ⟨_, rfl, rfl⟩
  clear D_integer_in
  have g_integer_in : mg "integer_in" = some (.ref (He.ga K "integer_in")) := He.glo_ok X G (c.fact 13 (f := .glo "integer_in") rfl)
  obtain ⟨fd_one_of, D_one_of⟩ := c.def_ 28 (d := _) rfl
  have U_one_of : Fun K "one_of" "one_of" s_one_of (He.ga K "one_of") fd_one_of := He5.fun_of D_one_of
  have b_one_of : Binds K fd_one_of ["word", "words"] [] := U_one_of.binds fun _ _ _ _ _ _ us hl => match us, hl with | [_, _], _ => rfl
  clear D_one_of
  have g_one_of : mg "one_of" = some (.ref (He.ga K "one_of")) := He.glo_ok X G (c.fact 14 (f := .glo "one_of") rfl)
  obtain ⟨fd_Wordsu_initu, D_Wordsu_initu⟩ := c.def_ 29 (d := _) rfl
  have U_Wordsu_initu : Fun K "__init__" "Words.__init__" s_Wordsu_initu (He.ma K (He.ga K "Words") "__init__") fd_Wordsu_initu := He5.fun_of D_Wordsu_initu
  have b_Wordsu_initu : Binds K fd_Wordsu_initu ["self", "line", "words"] [] := U_Wordsu_initu.binds fun _ _ _ _ _ _ us hl => match us, hl with | [_, _, _], _ => rfl
  clear D_Wordsu_initu
  obtain ⟨fd_Words_present, D_Words_present⟩ := c.def_ 30 (d := _) rfl
  have U_Words_present : Fun K "present" "Words.present" s_Words_present (He.ma K (He.ga K "Words") "present") fd_Words_present := He5.fun_of D_Words_present
  have b_Words_present : Binds K fd_Words_present ["self"] [] := U_Words_present.binds fun _ _ _ _ _ _ us hl => match us, hl with | [_], _ => rfl
  clear D_Words_present
  obtain ⟨fd_Words_need, D_Words_need⟩ := c.def_ 31 (d := _) rfl
  have U_Words_need : Fun K "need" "Words.need" s_Words_need (He.ma K (He.ga K "Words") "need") fd_Words_need := He5.fun_of D_Words_need
  have b_Words_need : Binds K fd_Words_need ["self", "meaning"] [] := U_Words_need.binds fun _ _ _ _ _ _ us hl => match us, hl with | [_, _], _ => rfl
  clear D_Words_need
  obtain ⟨fd_Words_need_word, D_Words_need_word⟩ := c.def_ 32 (d := _) rfl
  have U_Words_need_word : Fun K "need_word" "Words.need_word" s_Words_need_word (He.ma K (He.ga K "Words") "need_word") fd_Words_need_word := He5.fun_of D_Words_need_word
  clear D_Words_need_word
  obtain ⟨fd_Words_need_name, D_Words_need_name⟩ := c.def_ 33 (d := _) rfl
  have U_Words_need_name : Fun K "need_name" "Words.need_name" s_Words_need_name (He.ma K (He.ga K "Words") "need_name") fd_Words_need_name := He5.fun_of D_Words_need_name
  have b_Words_need_name : Binds K fd_Words_need_name ["self"] [] := U_Words_need_name.binds fun _ _ _ _ _ _ us hl => match us, hl with | [_], _ => rfl
  clear D_Words_need_name
  obtain ⟨fd_Words_need_end, D_Words_need_end⟩ := c.def_ 34 (d := _) rfl
  have U_Words_need_end : Fun K "need_end" "Words.need_end" s_Words_need_end (He.ma K (He.ga K "Words") "need_end") fd_Words_need_end := He5.fun_of D_Words_need_end
  have b_Words_need_end : Binds K fd_Words_need_end ["self"] [] := U_Words_need_end.binds fun _ _ _ _ _ _ us hl => match us, hl with | [_], _ => rfl
  clear D_Words_need_end
  obtain ⟨fd_lines_of, D_lines_of⟩ := c.def_ 35 (d := _) rfl
  have U_lines_of : Fun K "lines_of" "lines_of" s_lines_of (He.ga K "lines_of") fd_lines_of := He5.fun_of D_lines_of
  have b_lines_of : Binds K fd_lines_of ["text"] [] := U_lines_of.binds fun _ _ _ _ _ _ us hl => match us, hl with | [_], _ => rfl
  clear D_lines_of
  have g_lines_of : mg "lines_of" = some (.ref (He.ga K "lines_of")) := He.glo_ok X G (c.fact 15 (f := .glo "lines_of") rfl)
  obtain ⟨fd_bound_in, D_bound_in⟩ := c.def_ 36 (d := _) rfl
  have U_bound_in : Fun K "bound_in" "bound_in" s_bound_in (He.ga K "bound_in") fd_bound_in := He5.fun_of D_bound_in
  have b_bound_in : Binds K fd_bound_in ["text"] [] := U_bound_in.binds fun _ _ _ _ _ _ us hl => match us, hl with | [_], _ => rfl
  clear D_bound_in
  have g_bound_in : mg "bound_in" = some (.ref (He.ga K "bound_in")) := He.glo_ok X G (c.fact 16 (f := .glo "bound_in") rfl)
  obtain ⟨fd_part_in, D_part_in⟩ := c.def_ 37 (d := _) rfl
  have U_part_in : Fun K "part_in" "part_in" s_part_in (He.ga K "part_in") fd_part_in := He5.fun_of D_part_in
  have b_part_in : Binds K fd_part_in ["text"] [] := U_part_in.binds fun _ _ _ _ _ _ us hl => match us, hl with | [_], _ => rfl
  clear D_part_in
  have g_part_in : mg "part_in" = some (.ref (He.ga K "part_in")) := He.glo_ok X G (c.fact 17 (f := .glo "part_in") rfl)
  obtain ⟨fd_ranges_in, D_ranges_in⟩ := c.def_ 38 (d := _) rfl
  have U_ranges_in : Fun K "ranges_in" "ranges_in" s_ranges_in (He.ga K "ranges_in") fd_ranges_in := He5.fun_of D_ranges_in
  have b_ranges_in : Binds K fd_ranges_in ["word"] [] := U_ranges_in.binds fun _ _ _ _ _ _ us hl => match us, hl with | [_], _ => rfl
  clear D_ranges_in
  have g_ranges_in : mg "ranges_in" = some (.ref (He.ga K "ranges_in")) := He.glo_ok X G (c.fact 18 (f := .glo "ranges_in") rfl)
  obtain ⟨fd_condition_from, D_condition_from⟩ := c.def_ 39 (d := _) rfl
  have U_condition_from : Fun K "condition_from" "condition_from" s_condition_from (He.ga K "condition_from") fd_condition_from := He5.fun_of D_condition_from
  have b_condition_from : Binds K fd_condition_from ["words"] [] := U_condition_from.binds fun _ _ _ _ _ _ us hl => match us, hl with | [_], _ => rfl
  clear D_condition_from
  have g_condition_from : mg "condition_from" = some (.ref (He.ga K "condition_from")) := He.glo_ok X G (c.fact 19 (f := .glo "condition_from") rfl)
  obtain ⟨fd_tokens_from, D_tokens_from⟩ := c.def_ 40 (d := _) rfl
  have U_tokens_from : Fun K "tokens_from" "tokens_from" s_tokens_from (He.ga K "tokens_from") fd_tokens_from := He5.fun_of D_tokens_from
  have b_tokens_from : Binds K fd_tokens_from ["words"] [] := U_tokens_from.binds fun _ _ _ _ _ _ us hl => match us, hl with | [_], _ => rfl
  clear D_tokens_from
  have g_tokens_from : mg "tokens_from" = some (.ref (He.ga K "tokens_from")) := He.glo_ok X G (c.fact 20 (f := .glo "tokens_from") rfl)
  obtain ⟨fd_joined_tokens, D_joined_tokens⟩ := c.def_ 41 (d := _) rfl
  have U_joined_tokens : Fun K "joined_tokens" "joined_tokens" s_joined_tokens (He.ga K "joined_tokens") fd_joined_tokens := He5.fun_of D_joined_tokens
  have b_joined_tokens : Binds K fd_joined_tokens ["tokens"] [] := U_joined_tokens.binds fun _ _ _ _ _ _ us hl => match us, hl with | [_], _ => rfl
  clear D_joined_tokens
  have g_joined_tokens : mg "joined_tokens" = some (.ref (He.ga K "joined_tokens")) := He.glo_ok X G (c.fact 21 (f := .glo "joined_tokens") rfl)
  obtain ⟨fd_filter_from, D_filter_from⟩ := c.def_ 42 (d := _) rfl
  have U_filter_from : Fun K "filter_from" "filter_from" s_filter_from (He.ga K "filter_from") fd_filter_from := He5.fun_of D_filter_from
  have b_filter_from : Binds K fd_filter_from ["words"] [] := U_filter_from.binds fun _ _ _ _ _ _ us hl => match us, hl with | [_], _ => rfl
  clear D_filter_from
  have g_filter_from : mg "filter_from" = some (.ref (He.ga K "filter_from")) := He.glo_ok X G (c.fact 22 (f := .glo "filter_from") rfl)
  obtain ⟨fd_read_filter, D_read_filter⟩ := c.def_ 43 (d := _) rfl
  have U_read_filter : Fun K "read_filter" "read_filter" s_read_filter (He.ga K "read_filter") fd_read_filter := He5.fun_of D_read_filter
  have b_read_filter : Binds K fd_read_filter ["text"] [] := U_read_filter.binds fun _ _ _ _ _ _ us hl => match us, hl with | [_], _ => rfl
  clear D_read_filter
  have g_read_filter : mg "read_filter" = some (.ref (He.ga K "read_filter")) := He.glo_ok X G (c.fact 23 (f := .glo "read_filter") rfl)
  obtain ⟨fd_need_no_more, D_need_no_more⟩ := c.def_ 44 (d := _) rfl
  have U_need_no_more : Fun K "need_no_more" "need_no_more" s_need_no_more (He.ga K "need_no_more") fd_need_no_more := He5.fun_of D_need_no_more
  have b_need_no_more : Binds K fd_need_no_more ["lines", "many"] [] := U_need_no_more.binds fun _ _ _ _ _ _ us hl => match us, hl with | [_, _], _ => rfl
  clear D_need_no_more
  have g_need_no_more : mg "need_no_more" = some (.ref (He.ga K "need_no_more")) := He.glo_ok X G (c.fact 24 (f := .glo "need_no_more") rfl)
  obtain ⟨fd_law_pen, D_law_pen⟩ := c.def_ 45 (d := _) rfl
  have U_law_pen : Fun K "_law_pen" "_law_pen" s_law_pen (He.ga K "_law_pen") fd_law_pen := He5.fun_of D_law_pen
  have b_law_pen : Binds K fd_law_pen ["script"] [] := U_law_pen.binds fun _ _ _ _ _ _ us hl => match us, hl with | [_], _ => rfl
  clear D_law_pen
  have g_law_pen : mg "_law_pen" = some (.ref (He.ga K "_law_pen")) := He.glo_ok X G (c.fact 25 (f := .glo "_law_pen") rfl)
  obtain ⟨fd_law_draw, D_law_draw⟩ := c.def_ 46 (d := _) rfl
  have U_law_draw : Fun K "_law_draw" "_law_draw" s_law_draw (He.ga K "_law_draw") fd_law_draw := He5.fun_of D_law_draw
  have b_law_draw : Binds K fd_law_draw ["pen", "many"] [] := U_law_draw.binds fun _ _ _ _ _ _ us hl => match us, hl with | [_, _], _ => rfl
  clear D_law_draw
  have g_law_draw : mg "_law_draw" = some (.ref (He.ga K "_law_draw")) := He.glo_ok X G (c.fact 26 (f := .glo "_law_draw") rfl)
  obtain ⟨fd_law_name, D_law_name⟩ := c.def_ 47 (d := _) rfl
  have U_law_name : Fun K "_law_name" "_law_name" s_law_name (He.ga K "_law_name") fd_law_name := He5.fun_of D_law_name
  have b_law_name : Binds K fd_law_name ["pen"] [] := U_law_name.binds fun _ _ _ _ _ _ us hl => match us, hl with | [_], _ => rfl
  clear D_law_name
  have g_law_name : mg "_law_name" = some (.ref (He.ga K "_law_name")) := He.glo_ok X G (c.fact 27 (f := .glo "_law_name") rfl)
  obtain ⟨fd_law_names, D_law_names⟩ := c.def_ 48 (d := _) rfl
  have U_law_names : Fun K "_law_names" "_law_names" s_law_names (He.ga K "_law_names") fd_law_names := He5.fun_of D_law_names
  have b_law_names : Binds K fd_law_names ["pen", "many", "some"] [] := U_law_names.binds fun _ _ _ _ _ _ us hl => match us, hl with | [_, _, _], _ => rfl
  clear D_law_names
  have g_law_names : mg "_law_names" = some (.ref (He.ga K "_law_names")) := He.glo_ok X G (c.fact 28 (f := .glo "_law_names") rfl)
  obtain ⟨fd_law_bound, D_law_bound⟩ := c.def_ 49 (d := _) rfl
  have U_law_bound : Fun K "_law_bound" "_law_bound" s_law_bound (He.ga K "_law_bound") fd_law_bound := He5.fun_of D_law_bound
  have b_law_bound : Binds K fd_law_bound ["pen"] [] := U_law_bound.binds fun _ _ _ _ _ _ us hl => match us, hl with | [_], _ => rfl
  clear D_law_bound
  have g_law_bound : mg "_law_bound" = some (.ref (He.ga K "_law_bound")) := He.glo_ok X G (c.fact 29 (f := .glo "_law_bound") rfl)
  obtain ⟨fd_law_parts, D_law_parts⟩ := c.def_ 50 (d := _) rfl
  have U_law_parts : Fun K "_law_parts" "_law_parts" s_law_parts (He.ga K "_law_parts") fd_law_parts := He5.fun_of D_law_parts
  have b_law_parts : Binds K fd_law_parts ["pen", "most"] [] := U_law_parts.binds fun _ _ _ _ _ _ us hl => match us, hl with | [_, _], _ => rfl
  clear D_law_parts
  have g_law_parts : mg "_law_parts" = some (.ref (He.ga K "_law_parts")) := He.glo_ok X G (c.fact 30 (f := .glo "_law_parts") rfl)
  obtain ⟨fd_law_ranges, D_law_ranges⟩ := c.def_ 51 (d := _) rfl
  have U_law_ranges : Fun K "_law_ranges" "_law_ranges" s_law_ranges (He.ga K "_law_ranges") fd_law_ranges := He5.fun_of D_law_ranges
  have b_law_ranges : Binds K fd_law_ranges ["parts"] [] := U_law_ranges.binds fun _ _ _ _ _ _ us hl => match us, hl with | [_], _ => rfl
  clear D_law_ranges
  have g_law_ranges : mg "_law_ranges" = some (.ref (He.ga K "_law_ranges")) := He.glo_ok X G (c.fact 31 (f := .glo "_law_ranges") rfl)
  obtain ⟨fd_law_parts_text, D_law_parts_text⟩ := c.def_ 52 (d := _) rfl
  have U_law_parts_text : Fun K "_law_parts_text" "_law_parts_text" s_law_parts_text (He.ga K "_law_parts_text") fd_law_parts_text := He5.fun_of D_law_parts_text
  have b_law_parts_text : Binds K fd_law_parts_text ["parts"] [] := U_law_parts_text.binds fun _ _ _ _ _ _ us hl => match us, hl with | [_], _ => rfl
  clear D_law_parts_text
  have g_law_parts_text : mg "_law_parts_text" = some (.ref (He.ga K "_law_parts_text")) := He.glo_ok X G (c.fact 32 (f := .glo "_law_parts_text") rfl)
  obtain ⟨fd_law_leaf, D_law_leaf⟩ := c.def_ 53 (d := _) rfl
  have U_law_leaf : Fun K "_law_leaf" "_law_leaf" s_law_leaf (He.ga K "_law_leaf") fd_law_leaf := He5.fun_of D_law_leaf
  have b_law_leaf : Binds K fd_law_leaf ["pen", "columns"] [] := U_law_leaf.binds fun _ _ _ _ _ _ us hl => match us, hl with | [_, _], _ => rfl
  clear D_law_leaf
  have g_law_leaf : mg "_law_leaf" = some (.ref (He.ga K "_law_leaf")) := He.glo_ok X G (c.fact 33 (f := .glo "_law_leaf") rfl)
  obtain ⟨fd_law_tree, D_law_tree⟩ := c.def_ 54 (d := _) rfl
  have U_law_tree : Fun K "_law_tree" "_law_tree" s_law_tree (He.ga K "_law_tree") fd_law_tree := He5.fun_of D_law_tree
  have b_law_tree : Binds K fd_law_tree ["pen", "columns", "many"] [] := U_law_tree.binds fun _ _ _ _ _ _ us hl => match us, hl with | [_, _, _], _ => rfl
  clear D_law_tree
  have g_law_tree : mg "_law_tree" = some (.ref (He.ga K "_law_tree")) := He.glo_ok X G (c.fact 34 (f := .glo "_law_tree") rfl)
  obtain ⟨fd_law_filter, D_law_filter⟩ := c.def_ 55 (d := _) rfl
  have U_law_filter : Fun K "_law_filter" "_law_filter" s_law_filter (He.ga K "_law_filter") fd_law_filter := He5.fun_of D_law_filter
  have b_law_filter : Binds K fd_law_filter ["tree"] [] := U_law_filter.binds fun _ _ _ _ _ _ us hl => match us, hl with | [_], _ => rfl
  clear D_law_filter
  have g_law_filter : mg "_law_filter" = some (.ref (He.ga K "_law_filter")) := He.glo_ok X G (c.fact 35 (f := .glo "_law_filter") rfl)
  obtain ⟨fd_law_words, D_law_words⟩ := c.def_ 56 (d := _) rfl
  have U_law_words : Fun K "_law_words" "_law_words" s_law_words (He.ga K "_law_words") fd_law_words := He5.fun_of D_law_words
  have b_law_words : Binds K fd_law_words ["tree"] [] := U_law_words.binds fun _ _ _ _ _ _ us hl => match us, hl with | [_], _ => rfl
  clear D_law_words
  have g_law_words : mg "_law_words" = some (.ref (He.ga K "_law_words")) := He.glo_ok X G (c.fact 36 (f := .glo "_law_words") rfl)
  obtain ⟨fd_law_flat, D_law_flat⟩ := c.def_ 57 (d := _) rfl
  have U_law_flat : Fun K "_law_flat" "_law_flat" s_law_flat (He.ga K "_law_flat") fd_law_flat := He5.fun_of D_law_flat
  have b_law_flat : Binds K fd_law_flat ["pen", "columns", "many"] [] := U_law_flat.binds fun _ _ _ _ _ _ us hl => match us, hl with | [_, _, _], _ => rfl
  clear D_law_flat
  have g_law_flat : mg "_law_flat" = some (.ref (He.ga K "_law_flat")) := He.glo_ok X G (c.fact 37 (f := .glo "_law_flat") rfl)
  obtain ⟨fd_law_right, D_law_right⟩ := c.def_ 58 (d := _) rfl
  have U_law_right : Fun K "_law_right" "_law_right" s_law_right (He.ga K "_law_right") fd_law_right := He5.fun_of D_law_right
  have b_law_right : Binds K fd_law_right ["pen", "columns", "tree"] [] := U_law_right.binds fun _ _ _ _ _ _ us hl => match us, hl with | [_, _, _], _ => rfl
  clear D_law_right
  have g_law_right : mg "_law_right" = some (.ref (He.ga K "_law_right")) := He.glo_ok X G (c.fact 38 (f := .glo "_law_right") rfl)
  obtain ⟨fd_law_deep, D_law_deep⟩ := c.def_ 59 (d := _) rfl
  have U_law_deep : Fun K "_law_deep" "_law_deep" s_law_deep (He.ga K "_law_deep") fd_law_deep := He5.fun_of D_law_deep
  have b_law_deep : Binds K fd_law_deep ["pen", "many"] [] := U_law_deep.binds fun _ _ _ _ _ _ us hl => match us, hl with | [_, _], _ => rfl
  clear D_law_deep
  have g_law_deep : mg "_law_deep" = some (.ref (He.ga K "_law_deep")) := He.glo_ok X G (c.fact 39 (f := .glo "_law_deep") rfl)
  obtain ⟨fd_law_long, D_law_long⟩ := c.def_ 60 (d := _) rfl
  have U_law_long : Fun K "_law_long" "_law_long" s_law_long (He.ga K "_law_long") fd_law_long := He5.fun_of D_law_long
  have b_law_long : Binds K fd_law_long ["pen"] [] := U_law_long.binds fun _ _ _ _ _ _ us hl => match us, hl with | [_], _ => rfl
  clear D_law_long
  have g_law_long : mg "_law_long" = some (.ref (He.ga K "_law_long")) := He.glo_ok X G (c.fact 40 (f := .glo "_law_long") rfl)
  obtain ⟨fd_law, D_law⟩ := c.def_ 61 (d := _) rfl
  have U_law : Fun K "law" "law" s_law (He.ga K "law") fd_law := He5.fun_of D_law
  have b_law : Binds K fd_law ["script"] [] := U_law.binds fun _ _ _ _ _ _ us hl => match us, hl with | [_], _ => rfl
  clear D_law
  have g_law : mg "law" = some (.ref (He.ga K "law")) := He.glo_ok X G (c.fact 41 (f := .glo "law") rfl)
  have z_str : mg "str" = none := He.free_ok X G (c.fact 42 (f := .free "str") rfl)
  have z_isinstance : mg "isinstance" = none := He.free_ok X G (c.fact 43 (f := .free "isinstance") rfl)
  have z_int : mg "int" = none := He.free_ok X G (c.fact 44 (f := .free "int") rfl)
  have z_max : mg "max" = none := He.free_ok X G (c.fact 45 (f := .free "max") rfl)
  have z_min : mg "min" = none := He.free_ok X G (c.fact 46 (f := .free "min") rfl)
  have z_any : mg "any" = none := He.free_ok X G (c.fact 47 (f := .free "any") rfl)
  have z_sorted : mg "sorted" = none := He.free_ok X G (c.fact 48 (f := .free "sorted") rfl)
  have z_set : mg "set" = none := He.free_ok X G (c.fact 49 (f := .free "set") rfl)
  have z_tuple : mg "tuple" = none := He.free_ok X G (c.fact 50 (f := .free "tuple") rfl)
  have z_len : mg "len" = none := He.free_ok X G (c.fact 51 (f := .free "len") rfl)
  have z_enumerate : mg "enumerate" = none := He.free_ok X G (c.fact 52 (f := .free "enumerate") rfl)
  have z_reversed : mg "reversed" = none := He.free_ok X G (c.fact 53 (f := .free "reversed") rfl)
  have z_list : mg "list" = none := He.free_ok X G (c.fact 54 (f := .free "list") rfl)
  have z_abs : mg "abs" = none := He.free_ok X G (c.fact 55 (f := .free "abs") rfl)
  have z_range : mg "range" = none := He.free_ok X G (c.fact 56 (f := .free "range") rfl)
  have z_repr : mg "repr" = none := He.free_ok X G (c.fact 57 (f := .free "repr") rfl)
  have f_glo_Ranges := He.glo_ok X G (c.fact 58 (f := .glo "Ranges") rfl)
  have f_glo_Words := He.glo_ok X G (c.fact 59 (f := .glo "Words") rfl)
  have f_glo_Filter := He.glo_ok X G (c.fact 60 (f := .glo "Filter") rfl)
  have f_glo_CONDITIONS := He.glo_ok X G (c.fact 61 (f := .glo "CONDITIONS") rfl)
  have f_glo_SIGNS_reader := He.glo_ok X G (c.fact 62 (f := .glo "SIGNS_reader") rfl)
  have f_glo_SIGNS_texts := He.glo_ok X G (c.fact 63 (f := .glo "SIGNS_texts") rfl)
  have f_noat_Ranges_parts := He.noat_ok (c.fact 64 (f := .noat "Ranges" "parts") rfl)
  have f_noat_Filter_tree := He.noat_ok (c.fact 65 (f := .noat "Filter" "tree") rfl)
  have f_noat_Filter_columns := He.noat_ok (c.fact 66 (f := .noat "Filter" "columns") rfl)
  have f_noat_Words_line := He.noat_ok (c.fact 67 (f := .noat "Words" "line") rfl)
  have f_noat_Words_words := He.noat_ok (c.fact 68 (f := .noat "Words" "words") rfl)
  have f_noat_Words_at := He.noat_ok (c.fact 69 (f := .noat "Words" "at") rfl)
  have f_noat_Words_end := He.noat_ok (c.fact 70 (f := .noat "Words" "end") rfl)
  have f_mkr_Ranges := He.mkr_ok (c.fact 71 (f := .mkr "Ranges") rfl)
  have f_mkr_Words := He.mkr_ok (c.fact 72 (f := .mkr "Words") rfl)
  have f_mkr_Filter := He.mkr_ok (c.fact 73 (f := .mkr "Filter") rfl)
  have f_meth_Words_present := He.meth_ok (c.fact 74 (f := .meth "Words" "present") rfl)
  have f_meth_Words_need := He.meth_ok (c.fact 75 (f := .meth "Words" "need") rfl)
  have f_meth_Words_need_word := He.meth_ok (c.fact 76 (f := .meth "Words" "need_word") rfl)
  have f_meth_Words_need_name := He.meth_ok (c.fact 77 (f := .meth "Words" "need_name") rfl)
  have f_meth_Words_need_end := He.meth_ok (c.fact 78 (f := .meth "Words" "need_end") rfl)
  have f_str_FIGURES_0123456789 := He.str_ok X G (c.fact 79 (f := .str "FIGURES" "0123456789") rfl)
  have f_str_LETTERS_abcdefghijklmnopqrstuvwxyz := He.str_ok X G (c.fact 80 (f := .str "LETTERS" "abcdefghijklmnopqrstuvwxyz") rfl)
  have f_int_MOST_BOUND_FIGURES_12 := He.int_ok X G (c.fact 81 (f := .int "MOST_BOUND_FIGURES" 12) rfl)
  have f_int_MOST_LETTERS_8 := He.int_ok X G (c.fact 82 (f := .int "MOST_LETTERS" 8) rfl)
  have f_int_MOST_FILTER_WORDS_400 := He.int_ok X G (c.fact 83 (f := .int "MOST_FILTER_WORDS" 400) rfl)
  have f_int_MOST_WITHIN_100 := He.int_ok X G (c.fact 84 (f := .int "MOST_WITHIN" 100) rfl)

  have e := hfa.symm.trans g_law
  cases e
  have xs := c.ex
  unfold exS at xs
  simp only [Bool.and_eq_true, decide_eq_true_eq] at xs
  obtain ⟨x1, x2, x3, x4, x5, x6, x7, x8, x9, x10, x11, x12, x13, x14, x15, x16, x17, x18, x19, x20, x21, x22, x23, x24, x25, x26⟩ := xs
  have CR := clsAll_ok x1
  have CF := clsAll_ok x2
  have CW := clsAll_ok x3
  have gC : GTup K mg "CONDITIONS" condT := gtup_of X G (c.fact 61 (f := .glo "CONDITIONS") rfl) x22
  have gS : GTup K mg "SIGNS_reader" signsT := gtup_of X G (c.fact 62 (f := .glo "SIGNS_reader") rfl) x23
  have gT : GDic K w mg "SIGNS_texts" signT := gdic_of X G (c.fact 63 (f := .glo "SIGNS_texts") rfl) kdT x24
  generalize eC : He.ga K "Ranges" = C at *
  generalize eF : He.ga K "Filter" = D at *
  generalize eW : He.ga K "Words" = W at *
  let MC : Addr → Prop := fun a => a = W
  have nC : ¬ MC C := x25
  have nD : ¬ MC D := x26
  have WC : WCls K W := ⟨CW.cl, f_noat_Words_line, f_noat_Words_words, f_noat_Words_at, f_noat_Words_end⟩
  have FJ : FunC K "joined" "joined" s_joined (He.ga K "joined") (He.codeOf K ("joined", none)) fd_joined := funC_of (p := ("joined", none)) D_joined
  let tb := (He.cT K ("joined", none)).2
  refine ⟨[He.cT K ("joined", none)], spOf ⟨K, MC, TJ tb⟩ F_true, fun p hp => ?_, fun p hp => ?_, fun p hp => ?_, fun H a ns hl hb hH hS => ?_, fun base KX GX hTab => ?_⟩
  · rw [List.mem_singleton.mp hp]
    exact c.emp _ List.mem_cons_self
  · rw [List.mem_singleton.mp hp]
    exact c.out _ List.mem_cons_self
  · rw [List.mem_singleton.mp hp]
    exact PySem.W.codeHd_of_K X (c.hd _ List.mem_cons_self)
  · exact sp_true hl (fun p hp => by rw [List.mem_singleton.mp hp]; exact hH _ List.mem_cons_self) hS
  have TB : TabB base mg (He.codeOf K ("joined", none)) tb := hTab _ List.mem_cons_self
  -- the stretches
  have c_hihi (M : Addr → Prop) : Cal l.prog w K mg base 1 "higher_high" ["one", "other"] (spOf ⟨K, M, TJ tb⟩ F_hihi) := cal_mk (k_hihi U_higher_high z_max) g_higher_high U_higher_high.kp b_higher_high
  have c_joined (M : Addr → Prop) : Cal l.prog w K mg base 3 "joined" ["stretches"] (spOf ⟨K, M, TJ tb⟩ F_joined) := cal_mk (k_joined FJ TB (c_hihi M) z_sorted z_tuple) g_joined U_joined.kp b_joined
  have KI : FnOk l.prog w K mg base CX0 4 (He.ma K C "__init__") fd_Rangesu_initu ["self", "stretches"] (spInit ⟨K, MC, TJ tb⟩ C I_rng) := k_rinit U_Rangesu_initu (c_joined _) CR.cl f_noat_Ranges_parts
  have c_isE : Cal l.prog w K mg base 1 "is_empty" ["low", "high"] (spOf ⟨K, MC, TJ tb⟩ F_isE) := cal_mk (k_isE U_is_empty) g_is_empty U_is_empty.kp b_is_empty
  have r_btw : FnR l.prog w K mg base CX0 6 (He5.wf K C "classmethod" "between") (spOf ⟨K, MC, TJ tb⟩ (F_between C)) := fnR_of (k_between U_Ranges_between f_mkr_Ranges KI b_Rangesu_initu nC c_isE) b_Ranges_between
  have r_emp : FnR l.prog w K mg base CX0 6 (He5.wf K C "classmethod" "empty") (spOf ⟨K, MC, TJ tb⟩ (F_empty C)) := fnR_of (k_empty U_Ranges_empty f_mkr_Ranges KI b_Rangesu_initu nC) b_Ranges_empty
  have O : OrOk l.prog w K mg base MC (TJ tb) C (He.ma K C "__or__") := ⟨x7, (ownB_ok x6).1, (ownB_ok x6).2, fnR_of (k_or U_Rangesu_oru f_mkr_Ranges KI b_Rangesu_initu nC CR.cl f_noat_Ranges_parts f_glo_Ranges) b_Rangesu_oru⟩
  have c_hasn : Cal l.prog w K mg base 1 "has_number" ["parts", "number"] (spOf ⟨K, MC, TJ tb⟩ F_hasn) := cal_mk (k_hasn U_has_number z_any) g_has_number U_has_number.kp b_has_number
  -- filters
  have c_cols (M : Addr → Prop) : Cal l.prog w K mg base 102 "columns_in" ["tree"] (spOf ⟨K, M, TJ tb⟩ (F_cols 101)) := cal_mk (k_cols U_columns_in g_columns_in b_columns_in 101) g_columns_in U_columns_in.kp b_columns_in
  have KF : FnOk l.prog w K mg base CX0 103 (He.ma K D "__init__") fd_Filteru_initu ["self", "tree"] (spInit ⟨K, MC, TJ tb⟩ D (I_fil 101)) := k_finit U_Filteru_initu (c_cols _) CF.cl f_noat_Filter_tree f_noat_Filter_columns z_tuple z_sorted z_set
  have r_wi : FnR l.prog w K mg base CX0 105 (He5.wf K D "classmethod" "within") (spOf ⟨K, MC, TJ tb⟩ (F_fwithin 101 D C)) := fnR_of (k_fwithin U_Filter_within f_mkr_Filter KF b_Filteru_initu nD CR.cl f_noat_Ranges_parts) b_Filter_within
  have r_ms : FnR l.prog w K mg base CX0 105 (He5.wf K D "classmethod" "missing") (spOf ⟨K, MC, TJ tb⟩ (F_fmiss D)) := fnR_of (k_fmiss U_Filter_missing f_mkr_Filter KF b_Filteru_initu nD) b_Filter_missing
  have r_al : FnR l.prog w K mg base CX0 105 (He5.wf K D "classmethod" "always") (spOf ⟨K, MC, TJ tb⟩ (F_falways D)) := fnR_of (k_falways U_Filter_always f_mkr_Filter KF b_Filteru_initu nD f_glo_Filter) b_Filter_always
  have r_ne : FnR l.prog w K mg base CX0 105 (He5.wf K D "classmethod" "never") (spOf ⟨K, MC, TJ tb⟩ (F_fnever D)) := fnR_of (k_fnever U_Filter_never f_mkr_Filter KF b_Filteru_initu nD) b_Filter_never
  have MK : Makers l.prog w K mg base MC (TJ tb) D C := ⟨f_glo_Filter, _, CF.cr, ⟨_, _, cmB_ok x10, r_al⟩, ⟨_, _, cmB_ok x11, r_ne⟩, ⟨_, _, cmB_ok x9, r_ms⟩, ⟨_, _, cmB_ok x8, r_wi⟩⟩
  have OP : Opers l.prog w K mg base MC (TJ tb) D := ⟨x18, ⟨_, (ownB_ok x12).1, (ownB_ok x12).2, fnR_of (k_fand U_Filteru_andu f_mkr_Filter KF b_Filteru_initu nD f_glo_Filter CF.cl f_noat_Filter_tree) b_Filteru_andu⟩,
    ⟨_, (ownB_ok x13).1, (ownB_ok x13).2, fnR_of (k_for U_Filteru_oru f_mkr_Filter KF b_Filteru_initu nD f_glo_Filter CF.cl f_noat_Filter_tree) b_Filteru_oru⟩,
    ⟨_, (ownB_ok x14).1, (ownB_ok x14).2, fnR_of (k_fnot U_Filteru_invertu f_mkr_Filter KF b_Filteru_initu nD f_glo_Filter CF.cl f_noat_Filter_tree) b_Filteru_invertu⟩⟩
  have c_both : Cal l.prog w K mg base 1 "both" ["one", "other", "strong"] (spOf ⟨K, MC, TJ tb⟩ F_both) := cal_mk (k_both U_both) g_both U_both.kp b_both
  have c_truth : Cal l.prog w K mg base 32 "truth_of" ["tree", "values"] (spOf ⟨K, MC, TJ tb⟩ (F_truth 30)) := cal_mk (k_truth U_truth_of g_truth_of b_truth_of c_both c_hasn 30) g_truth_of U_truth_of.kp b_truth_of
  have EC : EqCall l.prog w K mg base MC (TJ tb) D (He.ma K D "__eq__") (He.ma K D "__call__") := ⟨x19, (ownB_ok x15).1, (ownB_ok x15).2, fnR_of (k_feq U_Filteru_equ CF.cl f_noat_Filter_tree f_glo_Filter z_isinstance CF.oc CF.ki) b_Filteru_equ, ⟨(ownB_ok x16).1, (ownB_ok x16).2, x17⟩, fnR_of (k_fcall U_Filteru_callu c_truth CF.cl f_noat_Filter_tree) b_Filteru_callu⟩
  -- texts
  have o_pt : FnOk l.prog w K mg base CX0 1 (He.ga K "part_text") fd_part_text ["low", "high"] (spOf ⟨K, MC, TJ tb⟩ F_part_text) := k_part_text U_part_text z_str
  have c_pts : Cal l.prog w K mg base 2 "parts_text" ["parts"] (spOf ⟨K, MC, TJ tb⟩ F_parts_text) := cal_mk (k_parts_text (MC2 := MC) U_parts_text o_pt b_part_text g_part_text U_part_text.kp) g_parts_text U_parts_text.kp b_parts_text
  have c_show : Cal l.prog w K mg base 3 "show_ranges" ["ranges"] (spOf ⟨K, MC, TJ tb⟩ (F_show C)) := cal_mk (k_show U_show_ranges c_pts CR.cl f_noat_Ranges_parts) g_show_ranges U_show_ranges.kp b_show_ranges
  have c_tw : Cal l.prog w K mg base 3 "tree_words" ["tree"] (spOf ⟨K, MC, TJ tb⟩ F_twords) := cal_mk (k_twords U_tree_words c_pts gT) g_tree_words U_tree_words.kp b_tree_words
  have o_sf : FnOk l.prog w K mg base CX0 4 (He.ga K "show_filter") fd_show_filter ["where"] (spOf ⟨K, MC, TJ tb⟩ (F_showf D)) := k_showf U_show_filter c_tw CF.cl f_noat_Filter_tree
  have c_sf : Cal l.prog w K mg base 4 "show_filter" ["where"] (spOf ⟨K, MC, TJ tb⟩ (F_showf D)) := cal_mk o_sf g_show_filter U_show_filter.kp b_show_filter
  have ck_sf : CalK l.prog w K mg base 4 "show_filter" 0 ["where"] ["where"] (spOf ⟨K, MC, TJ tb⟩ (F_showf D)) := calK_mk o_sf g_show_filter U_show_filter.kp (kb_one U_show_filter fun _ _ _ _ _ _ _ => rfl)
  -- read
  have c_intin : Cal l.prog w K mg base 1 "integer_in" ["word", "most"] (spOf ⟨K, MC, TJ tb⟩ F_intin) := cal_mk (k_intin U_integer_in z_len z_int f_str_FIGURES_0123456789) g_integer_in U_integer_in.kp b_integer_in
  have c_namein : Cal l.prog w K mg base 1 "name_in" ["word"] (spOf ⟨K, MC, TJ tb⟩ F_namein) := cal_mk (k_namein U_name_in z_len f_int_MOST_LETTERS_8 f_str_LETTERS_abcdefghijklmnopqrstuvwxyz) g_name_in U_name_in.kp b_name_in
  have c_oneof : Cal l.prog w K mg base 1 "one_of" ["word", "words"] (spOf ⟨K, MC, TJ tb⟩ F_oneof) := cal_mk (k_oneof U_one_of) g_one_of U_one_of.kp b_one_of
  have c_bin : Cal l.prog w K mg base 2 "bound_in" ["text"] (spOf ⟨K, MC, TJ tb⟩ F_boundin) := cal_mk (k_boundin U_bound_in c_intin f_int_MOST_BOUND_FIGURES_12) g_bound_in U_bound_in.kp b_bound_in
  have c_pin : Cal l.prog w K mg base 7 "part_in" ["text"] (spOf ⟨K, MC, TJ tb⟩ (F_partin C)) := cal_mk (k_partin U_part_in c_bin z_len f_glo_Ranges CR.cr (cmB_ok x4) r_btw) g_part_in U_part_in.kp b_part_in
  have c_rin : Cal l.prog w K mg base 8 "ranges_in" ["word"] (spOf ⟨K, MC, TJ tb⟩ (F_rangesin C)) := cal_mk (k_rangesin U_ranges_in c_pin c_show f_glo_Ranges CR.cr (cmB_ok x5) r_emp O) g_ranges_in U_ranges_in.kp b_ranges_in
  have c_lines : Cal l.prog w K mg base 3 "lines_of" ["text"] (spOf ⟨K, MC, TJ tb⟩ (F_lines W)) := cal_mk (k_lines U_lines_of f_mkr_Words (k_winit U_Wordsu_initu WC rfl z_len) b_Wordsu_initu rfl f_glo_Words z_isinstance z_str z_enumerate) g_lines_of U_lines_of.kp b_lines_of
  have c_nm : Cal l.prog w K mg base 1 "need_no_more" ["lines", "many"] (spOf ⟨K, MC, TJ tb⟩ F_nomore) := cal_mk (k_nomore U_need_no_more z_len) g_need_no_more U_need_no_more.kp b_need_no_more
  have M1 : WMeths l.prog w K mg base MC (TJ tb) W := ⟨WC, ⟨_, _, f_meth_Words_present, k_present U_Words_present WC, b_Words_present⟩, ⟨_, _, f_meth_Words_need, k_need U_Words_need WC, b_Words_need⟩⟩
  have M2 : WM2 l.prog w K mg base MC (TJ tb) W := ⟨M1, ⟨_, f_meth_Words_need_word, bmB_ok x20, k_needword U_Words_need_word M1 c_oneof⟩, ⟨_, _, f_meth_Words_need_name, k_needname U_Words_need_name M1 c_namein, b_Words_need_name⟩⟩
  have c_cond : Cal l.prog w K mg base 106 "condition_from" ["words"] (spOf ⟨K, MC, TJ tb⟩ (F_cond W D)) := cal_mk (k_cond U_condition_from M2 gC MK c_rin) g_condition_from U_condition_from.kp b_condition_from
  have c_toks : Cal l.prog w K mg base 107 "tokens_from" ["words"] (spOf ⟨K, MC, TJ tb⟩ (F_tokens W D)) := cal_mk (k_tokens U_tokens_from M2 gS f_int_MOST_WITHIN_100 z_len z_int c_cond) g_tokens_from U_tokens_from.kp b_tokens_from
  have c_joinT : Cal l.prog w K mg base 106 "joined_tokens" ["tokens"] (spOf ⟨K, MC, TJ tb⟩ (F_joinT D)) := cal_mk (k_joinT U_joined_tokens OP CF.oc x21 z_reversed z_isinstance z_str) g_joined_tokens U_joined_tokens.kp b_joined_tokens
  have c_ff : Cal l.prog w K mg base 108 "filter_from" ["words"] (spOf ⟨K, MC, TJ tb⟩ (F_filfrom W D)) := cal_mk (k_filfrom U_filter_from WC ⟨_, _, f_meth_Words_need_end, k_needend U_Words_need_end WC z_len, b_Words_need_end⟩ z_len z_min f_int_MOST_FILTER_WORDS_400 c_toks c_joinT) g_filter_from U_filter_from.kp b_filter_from
  have o_read : FnOk l.prog w K mg base CX0 109 (He.ga K "read_filter") fd_read_filter ["text"] (spOf ⟨K, MC, TJ tb⟩ (F_readf D)) := k_readf U_read_filter c_lines c_ff c_nm
  have c_read : Cal l.prog w K mg base 109 "read_filter" ["text"] (spOf ⟨K, MC, TJ tb⟩ (F_readf D)) := cal_mk o_read g_read_filter U_read_filter.kp b_read_filter
  have ck_read : CalK l.prog w K mg base 109 "read_filter" 0 ["text"] ["text"] (spOf ⟨K, MC, TJ tb⟩ (F_readf D)) := calK_mk o_read g_read_filter U_read_filter.kp (kb_one U_read_filter fun _ _ _ _ _ _ _ => rfl)
  -- the law's own
  have c_pen : Cal l.prog w K mg base 1 "_law_pen" ["script"] (spOf ⟨K, MC, TJ tb⟩ F_pen) := cal_mk (k_pen U_law_pen z_list) g_law_pen U_law_pen.kp b_law_pen
  have c_draw : Cal l.prog w K mg base 1 "_law_draw" ["pen", "many"] (spOf ⟨K, MC, TJ tb⟩ F_draw) := cal_mk (k_draw U_law_draw z_int z_len z_abs) g_law_draw U_law_draw.kp b_law_draw
  have c_bound : Cal l.prog w K mg base 2 "_law_bound" ["pen"] (spOf ⟨K, MC, TJ tb⟩ F_bound) := cal_mk (k_bound U_law_bound c_draw) g_law_bound U_law_bound.kp b_law_bound
  have c_lparts : Cal l.prog w K mg base 3 "_law_parts" ["pen", "most"] (spOf ⟨K, MC, TJ tb⟩ F_lparts) := cal_mk (k_lparts U_law_parts c_draw c_bound z_sorted z_range z_len z_tuple) g_law_parts U_law_parts.kp b_law_parts
  have c_lranges : Cal l.prog w K mg base 7 "_law_ranges" ["parts"] (spOf ⟨K, MC, TJ tb⟩ (F_lranges C)) := cal_mk (k_lranges U_law_ranges f_glo_Ranges CR.cr (cmB_ok x5) r_emp (cmB_ok x4) r_btw O) g_law_ranges U_law_ranges.kp b_law_ranges
  have c_ptext : Cal l.prog w K mg base 1 "_law_parts_text" ["parts"] (spOf ⟨K, MC, TJ tb⟩ F_ptext) := cal_mk (k_ptext U_law_parts_text z_str) g_law_parts_text U_law_parts_text.kp b_law_parts_text
  have c_lname : Cal l.prog w K mg base 2 "_law_name" ["pen"] (spOf ⟨K, MC, TJ tb⟩ F_lname) := cal_mk (k_lname U_law_name c_draw z_len z_range) g_law_name U_law_name.kp b_law_name
  have c_lnames : Cal l.prog w K mg base 3 "_law_names" ["pen", "many", "some"] (spOf ⟨K, MC, TJ tb⟩ F_lnames) := cal_mk (k_lnames U_law_names c_lname z_int z_range) g_law_names U_law_names.kp b_law_names
  have c_leaf : Cal l.prog w K mg base 4 "_law_leaf" ["pen", "columns"] (spOf ⟨K, MC, TJ tb⟩ F_leaf) := cal_mk (k_leaf U_law_leaf c_draw c_lparts z_len) g_law_leaf U_law_leaf.kp b_law_leaf
  have c_ltree : Cal l.prog w K mg base 5 "_law_tree" ["pen", "columns", "many"] (spOf ⟨K, MC, TJ tb⟩ F_ltree) := cal_mk (k_ltree U_law_tree c_draw c_leaf z_len z_range z_int) g_law_tree U_law_tree.kp b_law_tree
  have c_lfilter : Cal l.prog w K mg base 136 "_law_filter" ["tree"] (spOf ⟨K, MC, TJ tb⟩ (F_lfilter 30 D)) := cal_mk (k_lfilter U_law_filter g_law_filter b_law_filter MK OP c_lranges 30 (by decide)) g_law_filter U_law_filter.kp b_law_filter
  have c_lwords : Cal l.prog w K mg base 32 "_law_words" ["tree"] (spOf ⟨K, MC, TJ tb⟩ (F_lwords 30)) := cal_mk (k_lwords U_law_words g_law_words b_law_words c_ptext z_list 30) g_law_words U_law_words.kp b_law_words
  have c_lflat : Cal l.prog w K mg base 5 "_law_flat" ["pen", "columns", "many"] (spOf ⟨K, MC, TJ tb⟩ F_lflat) := cal_mk (k_lflat U_law_flat c_draw c_leaf z_len z_range) g_law_flat U_law_flat.kp b_law_flat
  have c_ldeep : Cal l.prog w K mg base 2 "_law_deep" ["pen", "many"] (spOf ⟨K, MC, TJ tb⟩ F_ldeep) := cal_mk (k_ldeep U_law_deep c_draw z_range) g_law_deep U_law_deep.kp b_law_deep
  have c_llong : Cal l.prog w K mg base 2 "_law_long" ["pen"] (spOf ⟨K, MC, TJ tb⟩ F_llong) := cal_mk (k_llong U_law_long c_draw z_len z_range) g_law_long U_law_long.kp b_law_long
  have o_right : OkG l.prog w K mg base 137 (He.ga K "_law_right") (spOf ⟨K, MC, TJ tb⟩ F_lright) := k_lright U_law_right b_law_right c_lfilter c_lwords c_sf ck_sf c_read ck_read c_draw c_bound EC CF.cl f_noat_Filter_tree z_repr z_range
  exact k_law U_law b_law c_pen c_draw c_lnames c_ltree c_lflat c_ldeep c_llong o_right g_law_right U_law_right.kp c_sf c_read CF.cl f_noat_Filter_tree z_range
end K85
end Sx

-- the head
namespace Sx
namespace K85
open PySem PySem.Spec PyProof.Rows L2
def loose0 : List PySem.Str := ["_wall", "SIGNS_texts", "part_text", "parts_text", "show_ranges", "tree_words", "show_filter", "is_integer", "higher_low", "lower_high", "higher_high", "is_empty", "joined", "common", "outside", "has_number"]
def loose1 : List PySem.Str := ["Ranges", "columns_in", "both", "truth_of", "Filter", "FeedError", "InvalidText", "LETTERS", "FIGURES", "MOST_LETTERS", "MOST_FIGURES", "name_in", "integer_in", "one_of", "Words", "lines_of"]
def loose2 : List PySem.Str := ["MOST_FILTER_WORDS", "MOST_BOUND_FIGURES", "CONDITIONS", "SIGNS_reader", "MOST_WITHIN", "bound_in", "part_in", "ranges_in", "condition_from", "tokens_from", "joined_tokens", "filter_from", "read_filter", "need_no_more", "_law_pen", "_law_draw"]
def loose3 : List PySem.Str := ["_law_name", "_law_names", "_law_bound", "_law_parts", "_law_ranges", "_law_parts_text", "_law_leaf", "_law_tree", "_law_filter", "_law_words", "_law_flat", "_law_right", "_law_deep", "_law_long"]
def loose : List PySem.Str := loose0 ++ loose1 ++ loose2 ++ loose3
abbrev R : PySem.W.OpenRow := PySem.W.OpenLaw.row PySem.Challenge.rw_speaklast_k85_filters_as_texts
def tfS : List He.Defn := [("joined", none)]
abbrev hk : PySem.W.Hook := hookB 7 faS fnS tfS tsS exS
def ob (s : PySem.W.SharedT) : AlW := toldB 7 faS fnS tfS tsS exS (HandSHeadRun.getT s)
theorem ob_eq (s : PySem.W.SharedT) : ob s = hk.obs s.abs := toldB_eq (HandSHeadRun.getT_eq s)
theorem run0 (w : World) : HandSHeadRun.RunEq R (PySem.W.view R.prog [69]) hk ob 9000 loose (w.withFollow "special-get-raises" false) := by
  intro os
  kernel_rfl
theorem run1 (w : World) : HandSHeadRun.RunEq R (PySem.W.view R.prog [69]) hk ob 9000 loose (w.withFollow "special-get-raises" true) := by
  intro os
  kernel_rfl
theorem run (w : World) : HandSHeadRun.RunEq R (PySem.W.view R.prog [69]) hk ob 9000 loose w :=
  PySem.W.byRow2 "special-get-raises" (P := fun w => HandSHeadRun.RunEq R (PySem.W.view R.prog [69]) hk ob 9000 loose w) run0 run1 w
end K85
end Sx
open PySem PySem.W PySem.Calls PyProof.Rows
set_option maxRecDepth 100000 in
set_option maxHeartbeats 0 in
theorem PySem.Challenge.cw_speaklast_k85_filters_as_texts_holds : PySem.Challenge.rw_speaklast_k85_filters_as_texts.Holds := by
  w_on; o_law
  refine HandSHeadRun.head_any (r := OpenLaw.row PySem.Challenge.rw_speaklast_k85_filters_as_texts) (q := view (OpenLaw.row PySem.Challenge.rw_speaklast_k85_filters_as_texts).prog [69]) (H := Sx.K85.hk) (ob := Sx.K85.ob) (M := 9000) (loose := Sx.K85.loose) (d := HandSHeadRun.topDef (OpenLaw.row PySem.Challenge.rw_speaklast_k85_filters_as_texts).prog 69) (kwd := []) Sx.K85.ob_eq
    (by kernel_rfl) (fun s => by kernel_rfl) Sx.K85.run (by kernel_rfl) (by kernel_rfl) (by kernel_rfl) (by rfl) (by first | assumption | decide +kernel) (by decide +kernel) ⟨rfl, rfl, rfl, rfl, rfl, by decide +kernel⟩ ?hw ?hc
  case hw => w_witness2
  case hc =>
    refine Sx.walk_S (l := PySem.Challenge.rw_speaklast_k85_filters_as_texts) (n := 63) (k := 138) rfl (by decide) (by kernel_rfl) ⟨rfl, by decide, by decide⟩ ?F
    intro w mg fa h Y G hmg0
    obtain ⟨K, KX, c⟩ := Y
    have hmg : mg ("law" : PySem.Str) = some (.ref fa) := by
      have e : (HandSHeadRun.topDef (OpenLaw.row PySem.Challenge.rw_speaklast_k85_filters_as_texts).prog 69).name = ("law" : PySem.Str) := by kernel_rfl
      rw [← e]
      exact hmg0
    exact ⟨K, KX, Sx.K85.facts KX G hmg c⟩

